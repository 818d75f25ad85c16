import PyProof.Rows.All
import Wide.All
import OpenK.AllK
import Wide.FinOn
import HandS.ForMost
import HandS.Walk
import HandS.Flow
import HandS.TupAny
import HandS.IsInst
import HandS.Zip
import HandS.Conv
import HandS.Slots
import HandS.Defaults
import HandS.MakeKwOnly
import PySem.Challenge.RW_nearsame_k54_how_far_several_grids_reach
set_option Elab.async false
set_option linter.all false
set_option maxRecDepth 100000
set_option maxHeartbeats 1000000
/-! DL: a layer of plain data over the rules of the hand layer. -/
namespace DL
open PySem L2

inductive D where
  | non | bl (b : Bool) | int (i : Int) | str (x : Str) | tup (xs : List D) | lst (xs : List D) | scr (xs : List Int) | ins (c : Nat) (xs : List D)
inductive R where
  | no | dat (d : D) | cel (k : Nat) | fr (xs : List D)
abbrev Mu := List (List D)
abbrev Sl := List R
inductive Flo where
  | nx (δ : Sl) (μ : Mu) | rt (r : R) (μ : Mu) | bk (δ : Sl) (μ : Mu) | ct (δ : Sl) (μ : Mu)
abbrev ME := Sl → Mu → Option (R × Mu)
abbrev MT := Sl → Mu → Option (Bool × Mu)
abbrev MA := Sl → Mu → Option (List R × Mu)
abbrev MS := Sl → Mu → Option Flo

mutual
inductive Rep (K : PySem.W.Frag) (cl : Nat → Addr) (F : Hp) : V → D → Prop
  | non : Rep K cl F .non .non
  | bl (b : Bool) : Rep K cl F (.bl b) (.bl b)
  | int (i : Int) : Rep K cl F (.int i) (.int i)
  | str (x : Str) : Rep K cl F (.str x) (.str x)
  | tup {a : Addr} {vs : List V} {xs : List D} : SqT K F a vs → Reps K cl F vs xs → Rep K cl F (.ref a) (.tup xs)
  | lst {a : Addr} {vs : List V} {xs : List D} : F a = some (.lst vs) → Reps K cl F vs xs → Rep K cl F (.ref a) (.lst xs)
  | scr {a : Addr} {ns : List Int} : SqL K F a (ns.map V.int) → Rep K cl F (.ref a) (.scr ns)
  | ins {a dx : Addr} {c : Nat} {vs : List V} {xs : List D} : SlX.Slt F a (cl c) dx (vs.map some) → F a = some (SlX.SlO a (cl c) dx (vs.map some)) → Reps K cl F vs xs → Rep K cl F (.ref a) (.ins c xs)
inductive Reps (K : PySem.W.Frag) (cl : Nat → Addr) (F : Hp) : List V → List D → Prop
  | nil : Reps K cl F [] []
  | cons {v : V} {d : D} {vs : List V} {ds : List D} : Rep K cl F v d → Reps K cl F vs ds → Reps K cl F (v :: vs) (d :: ds)
end

theorem Same.sqT {K : PySem.W.Frag} {H H' : Hp} {a : Addr} {xs : List V} (e : Same H H') (h : SqT K H a xs) : SqT K H' a xs := by
  rcases h with (h | ⟨o, h⟩) | h
  · exact .inl (.inl (e _ _ h))
  · exact .inl (.inr ⟨o, e _ _ h⟩)
  · exact .inr h
theorem Same.slt {H H' : Hp} {a C dx : Addr} {vs : List (Option V)} (e : Same H H') (h : SlX.Slt H a C dx vs) : SlX.Slt H' a C dx vs := by
  rcases h with ⟨h1, h2⟩ | ⟨h1, h2⟩
  · exact .inl ⟨e _ _ h1, h2⟩
  · exact .inr ⟨e _ _ h1, e _ _ h2⟩
mutual
theorem Rep.mono {K : PySem.W.Frag} {cl : Nat → Addr} {F F' : Hp} (e : Same F F') : ∀ {v : V} {d : D}, Rep K cl F v d → Rep K cl F' v d
  | _, _, .non => .non
  | _, _, .bl b => .bl b
  | _, _, .int i => .int i
  | _, _, .str x => .str x
  | _, _, .tup h r => .tup (Same.sqT e h) (Reps.mono e r)
  | _, _, .lst h r => .lst (e _ _ h) (Reps.mono e r)
  | _, _, .scr h => .scr (e.seq h)
  | _, _, .ins h q r => .ins (Same.slt e h) (e _ _ q) (Reps.mono e r)
theorem Reps.mono {K : PySem.W.Frag} {cl : Nat → Addr} {F F' : Hp} (e : Same F F') : ∀ {vs : List V} {ds : List D}, Reps K cl F vs ds → Reps K cl F' vs ds
  | _, _, .nil => .nil
  | _, _, .cons r q => .cons (Rep.mono e r) (Reps.mono e q)
end
section
variable {K : PySem.W.Frag} {cl : Nat → Addr} {F F' F1 F2 H H0 H' H1 H2 : Hp} {α α' α1 α2 : List Addr} {μ μ' μ1 μ2 : Mu} {σ σ' : L2.St} {δ δ' : Sl} {v w x y : V} {vs us : List V} {d d' : D} {ds es : List D} {r r' : R}
theorem Reps.length : ∀ {vs : List V} {ds : List D}, Reps K cl F vs ds → vs.length = ds.length
  | _, _, .nil => rfl
  | _, _, .cons _ q => congrArg (· + 1) (Reps.length q)
theorem Reps.get : ∀ {vs : List V} {ds : List D} {i : Nat} {d : D}, Reps K cl F vs ds → ds[i]? = some d → ∃ v, vs[i]? = some v ∧ Rep K cl F v d
  | _, _, _, _, .nil, h => by simp at h
  | _, _, 0, _, .cons r _, h => by
    simp at h
    subst h
    exact ⟨_, rfl, r⟩
  | _, _, i + 1, _, .cons _ q, h => by
    obtain ⟨v, e, r⟩ := Reps.get (i := i) q (by simpa using h)
    exact ⟨v, by simpa using e, r⟩
theorem Reps.append : ∀ {vs us : List V} {ds es : List D}, Reps K cl F vs ds → Reps K cl F us es → Reps K cl F (vs ++ us) (ds ++ es)
  | _, _, _, _, .nil, q => q
  | _, _, _, _, .cons r q, s => .cons r (Reps.append q s)
theorem Reps.take : ∀ {vs : List V} {ds : List D} (n : Nat), Reps K cl F vs ds → Reps K cl F (vs.take n) (ds.take n)
  | _, _, 0, _ => .nil
  | _, _, _ + 1, .nil => .nil
  | _, _, n + 1, .cons r q => .cons r (Reps.take n q)
theorem Reps.drop : ∀ {vs : List V} {ds : List D} (n : Nat), Reps K cl F vs ds → Reps K cl F (vs.drop n) (ds.drop n)
  | _, _, 0, q => q
  | _, _, _ + 1, .nil => .nil
  | _, _, n + 1, .cons _ q => Reps.drop n q
theorem Reps.set : ∀ {vs : List V} {ds : List D} (n : Nat) {v : V} {d : D}, Rep K cl F v d → Reps K cl F vs ds → Reps K cl F (vs.set n v) (ds.set n d)
  | _, _, _, _, _, _, .nil => .nil
  | _, _, 0, _, _, r, .cons _ q => .cons r q
  | _, _, n + 1, _, _, r, .cons q s => .cons q (Reps.set n r s)
theorem Reps.flat (k : Nat) (q : Reps K cl F vs ds) : Reps K cl F (List.replicate k vs).flatten (List.replicate k ds).flatten := by
  induction k with
  | zero => exact .nil
  | succ k ih =>
    rw [List.replicate_succ, List.replicate_succ, List.flatten_cons, List.flatten_cons]
    exact q.append ih
theorem Reps.ints : ∀ (ns : List Int), Reps K cl F (ns.map V.int) (ns.map D.int)
  | [] => .nil
  | _ :: ns => .cons (.int _) (Reps.ints ns)
theorem Reps.of_ints : ∀ {vs : List V} {ns : List Int}, Reps K cl F vs (ns.map D.int) → vs = ns.map V.int
  | _, [], h => by
    cases h
    rfl
  | _, n :: ns, h => by
    cases h with
    | cons r q =>
      cases r
      rw [Reps.of_ints q]
      rfl

/-! ### the state -/
structure Conc (K : PySem.W.Frag) (cl : Nat → Addr) (F : Hp) (α : List Addr) (μ : Mu) (H : Hp) : Prop where
  sub : Same F H
  len : α.length = μ.length
  nd : α.Nodup
  cell : ∀ (k : Nat) (a : Addr) (xs : List D), α[k]? = some a → μ[k]? = some xs → ∃ vs, H a = some (.lst vs) ∧ Reps K cl F vs xs
  out : ∀ a, a ∈ α → F a = none
structure Evo (F : Hp) (α : List Addr) (H F' : Hp) (α' : List Addr) (H' : Hp) : Prop where
  ff : Same F F'
  ext : ∃ e, α' = α ++ e
  hh : ∀ a o, H a = some o → a ∉ α → H' a = some o
  dom : ∀ a, H' a = none → H a = none
  fre : ∀ a o, F a = none → F' a = some o → H a = none
  fra : ∀ a, a ∈ α' → a ∉ α → H a = none
theorem Evo.refl : Evo F α H F α H := ⟨Same.refl F, ⟨[], by simp⟩, fun _ _ h _ => h, fun _ h => h, fun _ _ h q => (by rw [h] at q; cases q), fun a h q => absurd h q⟩
theorem Evo.trans (a : Evo F α H F1 α1 H1) (b : Evo F1 α1 H1 F2 α2 H2) : Evo F α H F2 α2 H2 := by
  refine ⟨a.ff.trans b.ff, ?_, fun x o h q => b.hh x o (a.hh x o h q) fun z => ?_, fun x h => a.dom x (b.dom x h), fun x o h q => ?_, fun x h q => ?_⟩
  · obtain ⟨e, rfl⟩ := a.ext
    obtain ⟨e', rfl⟩ := b.ext
    exact ⟨e ++ e', by rw [List.append_assoc]⟩
  · have := a.fra x z q
    rw [h] at this
    cases this
  · cases e : F1 x with
    | none => exact a.dom x (b.fre x o e q)
    | some u => exact a.fre x u h e
  · by_cases z : x ∈ α1
    · exact a.fra x z q
    · exact a.dom x (b.fra x h z)
def RepR (K : PySem.W.Frag) (cl : Nat → Addr) (H0 F : Hp) (α : List Addr) (H : Hp) (v : V) : R → Prop
  | .no => False
  | .dat d => Rep K cl F v d
  | .cel k => ∃ a : Addr, α[k]? = some a ∧ v = .ref a
  | .fr xs => ∃ a vs, v = .ref a ∧ H0 a = none ∧ F a = none ∧ a ∉ α ∧ H a = some (.lst vs) ∧ Reps K cl F vs xs
theorem RepR.step (h : RepR K cl H0 F α H v r) (e : Evo F α H F' α' H') : RepR K cl H0 F' α' H' v r := by
  cases r with
  | no => exact h
  | dat d => exact Rep.mono e.ff h
  | cel k =>
    obtain ⟨a, h1, h2⟩ := h
    obtain ⟨x, rfl⟩ := e.ext
    exact ⟨a, by rw [List.getElem?_append_left (List.getElem?_eq_some_iff.mp h1).1]; exact h1, h2⟩
  | fr xs =>
    obtain ⟨a, vs, h1, h2, h3, h4, h5, h6⟩ := h
    refine ⟨a, vs, h1, h2, ?_, fun z => ?_, e.hh a _ h5 h4, h6.mono e.ff⟩
    · cases q : F' a with
      | none => rfl
      | some u =>
        have := e.fre a u h3 q
        rw [h5] at this
        cases this
    · have := e.fra a z h4
      rw [h5] at this
      cases this
theorem RepR.back (h : RepR K cl H1 F α H v r) (k : ∀ a, H1 a = none → H0 a = none) : RepR K cl H0 F α H v r := by
  cases r with
  | no => exact h
  | dat d => exact h
  | cel k => exact h
  | fr xs =>
    obtain ⟨a, vs, h1, h2, h3⟩ := h
    exact ⟨a, vs, h1, k a h2, h3⟩
def EnvOk (K : PySem.W.Frag) (cl : Nat → Addr) (F : Hp) (α : List Addr) (σ : L2.St) (δ : Sl) : Prop :=
  δ.length = σ.length ∧ (∀ (i : Nat) (d : D), δ[i]? = some (.dat d) → ∃ v, σ[i]? = some (some v) ∧ Rep K cl F v d) ∧ ∀ (i k : Nat), δ[i]? = some (.cel k) → ∃ a, α[k]? = some a ∧ σ[i]? = some (some (.ref a))
theorem EnvOk.step (h : EnvOk K cl F α σ δ) (e : Evo F α H F' α' H') : EnvOk K cl F' α' σ δ := by
  refine ⟨h.1, fun i d q => ?_, fun i k q => ?_⟩
  · obtain ⟨v, h1, h2⟩ := h.2.1 i d q
    exact ⟨v, h1, h2.mono e.ff⟩
  · obtain ⟨a, h1, h2⟩ := h.2.2 i k q
    obtain ⟨x, rfl⟩ := e.ext
    exact ⟨a, by rw [List.getElem?_append_left (List.getElem?_eq_some_iff.mp h1).1]; exact h1, h2⟩
/-- a plain value stored into a slot -/
theorem EnvOk.put (h : EnvOk K cl F α σ δ) (i : Nat) (hv : Rep K cl F v d) : EnvOk K cl F α (σ.set i (some v)) (δ.set i (.dat d)) := by
  refine ⟨by simp [h.1], fun j d' q => ?_, fun j k q => ?_⟩
  · by_cases hj : i = j
    · subst hj
      have hi : i < δ.length := by
        have := (List.getElem?_eq_some_iff.mp q).1
        simpa using this
      rw [List.getElem?_set_self hi] at q
      cases q
      exact ⟨v, List.getElem?_set_self (by rw [← h.1]; exact hi), hv⟩
    · rw [List.getElem?_set_ne hj] at q
      rw [List.getElem?_set_ne hj]
      exact h.2.1 j d' q
  · by_cases hj : i = j
    · subst hj
      have hi : i < δ.length := by
        have := (List.getElem?_eq_some_iff.mp q).1
        simpa using this
      rw [List.getElem?_set_self hi] at q
      cases q
    · rw [List.getElem?_set_ne hj] at q
      rw [List.getElem?_set_ne hj]
      exact h.2.2 j k q
theorem EnvOk.putC (h : EnvOk K cl F α σ δ) (i : Nat) {k : Nat} {a : Addr} (hv : α[k]? = some a) : EnvOk K cl F α (σ.set i (some (.ref a))) (δ.set i (.cel k)) := by
  refine ⟨by simp [h.1], fun j d' q => ?_, fun j k' q => ?_⟩
  · by_cases hj : i = j
    · subst hj
      have hi : i < δ.length := by
        have := (List.getElem?_eq_some_iff.mp q).1
        simpa using this
      rw [List.getElem?_set_self hi] at q
      cases q
    · rw [List.getElem?_set_ne hj] at q
      rw [List.getElem?_set_ne hj]
      exact h.2.1 j d' q
  · by_cases hj : i = j
    · subst hj
      have hi : i < δ.length := by
        have := (List.getElem?_eq_some_iff.mp q).1
        simpa using this
      rw [List.getElem?_set_self hi] at q
      cases q
      exact ⟨a, hv, List.getElem?_set_self (by rw [← h.1]; exact hi)⟩
    · rw [List.getElem?_set_ne hj] at q
      rw [List.getElem?_set_ne hj]
      exact h.2.2 j k' q

/-! ### freezing a fresh list -/
theorem upd_some_ne {H : Hp} {a b : Addr} {o u : HO} (h : upd H a o b = some u) (q : b ≠ a) : H b = some u := by
  rw [upd_ne q] at h
  exact h
theorem same_upd {H : Hp} {p : Addr} {o : HO} (h : H p = none) : Same H (upd H p o) := fun b x e => by
  rw [upd_ne (ne_of_none e h)]
  exact e
@[simp] def froz : R → R
  | .fr xs => .dat (.lst xs)
  | r => r
@[simp] def toD : R → Option D
  | .dat d => some d
  | .fr xs => some (.lst xs)
  | _ => none
theorem freeze {F0 : Hp} {α0 : List Addr} (e : Evo F0 α0 H0 F α H) (c : Conc K cl F α μ H) (h : RepR K cl H0 F α H v r) :
    ∃ F', Evo F0 α0 H0 F' α H ∧ Conc K cl F' α μ H ∧ RepR K cl H0 F' α H v (froz r) := by
  cases r with
  | no => exact ⟨F, e, c, h⟩
  | dat d => exact ⟨F, e, c, h⟩
  | cel k => exact ⟨F, e, c, h⟩
  | fr xs =>
    obtain ⟨a, vs, h1, h2, h3, h4, h5, h6⟩ := h
    have sm : Same F (upd F a (.lst vs)) := same_upd h3
    refine ⟨upd F a (.lst vs), ⟨e.ff.trans sm, e.ext, e.hh, e.dom, fun b o hb hq => ?_, e.fra⟩, ⟨fun b o hb => ?_, c.len, c.nd, fun k b ys h1 h2 => ?_, fun b hb => ?_⟩, ?_⟩
    · by_cases z : b = a
      · rw [z]
        exact h2
      · exact e.fre b o hb (upd_some_ne hq z)
    · by_cases z : b = a
      · subst z
        rw [upd_same] at hb
        cases hb
        exact h5
      · exact c.sub b o (upd_some_ne hb z)
    · obtain ⟨us, q1, q2⟩ := c.cell k b ys h1 h2
      exact ⟨us, q1, q2.mono sm⟩
    · rw [upd_ne (show b ≠ a from fun z => h4 (by rw [← z]; exact hb))]
      exact c.out b hb
    · show Rep K cl _ v _
      rw [h1]
      exact .lst upd_same (h6.mono sm)
theorem froz_dat (h : toD r = some d) : froz r = .dat d := by
  cases r with
  | no => cases h
  | dat d' =>
    cases h
    rfl
  | cel k => cases h
  | fr xs =>
    cases h
    rfl
/-- a new frozen object -/
theorem Conc.new {p : Addr} {o : HO} (c : Conc K cl F α μ H) (hp : H p = none) : Evo F α H (upd F p o) α (upd H p o) ∧ Conc K cl (upd F p o) α μ (upd H p o) := by
  have fp : F p = none := by
    cases e : F p with
    | none => rfl
    | some u =>
      rw [c.sub p u e] at hp
      cases hp
  have pa : ∀ a, a ∈ α → a ≠ p := fun a ha z => by
    subst z
    obtain ⟨k, hk, ek⟩ := List.mem_iff_getElem.mp ha
    have hk2 : k < μ.length := by rw [← c.len]; exact hk
    obtain ⟨vs, q, _⟩ := c.cell k a μ[k] (by rw [List.getElem?_eq_getElem hk, ek]) (List.getElem?_eq_getElem hk2)
    rw [hp] at q
    cases q
  have sm : Same F (upd F p o) := same_upd fp
  refine ⟨⟨sm, ⟨[], by simp⟩, fun a u h _ => ?_, fun a h => ?_, fun a u h q => ?_, fun a h q => absurd h q⟩, ⟨fun a u h => ?_, c.len, c.nd, fun k a xs h1 h2 => ?_, fun a h => ?_⟩⟩
  · rw [upd_ne (ne_of_none h hp)]
    exact h
  · by_cases z : a = p
    · rw [z]
      exact hp
    · rw [upd_ne z] at h
      exact h
  · by_cases z : a = p
    · rw [z]
      exact hp
    · have := upd_some_ne q z
      rw [h] at this
      cases this
  · by_cases z : a = p
    · subst z
      rw [upd_same] at h
      rw [upd_same]
      exact h
    · rw [upd_ne z]
      exact c.sub a u (upd_some_ne h z)
  · obtain ⟨vs, q1, q2⟩ := c.cell k a xs h1 h2
    exact ⟨vs, by rw [upd_ne (ne_of_none q1 hp)]; exact q1, q2.mono sm⟩
  · rw [upd_ne (pa a h)]
    exact c.out a h
/-- a new list, not frozen -/
theorem Conc.newL {p : Addr} (c : Conc K cl F α μ H) (hp : H p = none) (q : Reps K cl F vs ds) : Evo F α H F α (upd H p (.lst vs)) ∧ Conc K cl F α μ (upd H p (.lst vs)) ∧ RepR K cl H F α (upd H p (.lst vs)) (.ref p) (.fr ds) := by
  have fp : F p = none := by
    cases e : F p with
    | none => rfl
    | some u =>
      rw [c.sub p u e] at hp
      cases hp
  have pa : p ∉ α := fun ha => by
    obtain ⟨k, hk, ek⟩ := List.mem_iff_getElem.mp ha
    have hk2 : k < μ.length := by rw [← c.len]; exact hk
    obtain ⟨vs, q, _⟩ := c.cell k p μ[k] (by rw [List.getElem?_eq_getElem hk, ek]) (List.getElem?_eq_getElem hk2)
    rw [hp] at q
    cases q
  refine ⟨⟨Same.refl F, ⟨[], by simp⟩, fun a u h _ => ?_, fun a h => ?_, fun a u h q => (by rw [h] at q; cases q), fun a h q => absurd h q⟩, ⟨fun a u h => ?_, c.len, c.nd, fun k a xs h1 h2 => ?_, c.out⟩, ⟨p, vs, rfl, hp, fp, pa, upd_same, q⟩⟩
  · rw [upd_ne (ne_of_none h hp)]
    exact h
  · by_cases z : a = p
    · rw [z]
      exact hp
    · rw [upd_ne z] at h
      exact h
  · rw [upd_ne (ne_of_none (c.sub a u h) hp)]
    exact c.sub a u h
  · obtain ⟨vs, q1, q2⟩ := c.cell k a xs h1 h2
    exact ⟨vs, by rw [upd_ne (ne_of_none q1 hp)]; exact q1, q2⟩
end

/-! ### the readings -/
def tm (K : PySem.W.Frag) (cl : Nat → Addr) (m : ME) : TE := fun σ H Q => ∃ F α δ μ r μ', Conc K cl F α μ H ∧ EnvOk K cl F α σ δ ∧ m δ μ = some (r, μ') ∧
  ∀ v F' H', Evo F α H F' α H' → Conc K cl F' α μ' H' → RepR K cl H F' α H' v r → Q v H'
def tmt (K : PySem.W.Frag) (cl : Nat → Addr) (m : MT) : TT := fun σ H Q => ∃ F α δ μ b μ', Conc K cl F α μ H ∧ EnvOk K cl F α σ δ ∧ m δ μ = some (b, μ') ∧
  ∀ F' H', Evo F α H F' α H' → Conc K cl F' α μ' H' → Q b H'
def ArgR (K : PySem.W.Frag) (cl : Nat → Addr) (F : Hp) (α : List Addr) (v : V) : R → Prop
  | .dat d => Rep K cl F v d
  | .cel k => ∃ a : Addr, α[k]? = some a ∧ v = .ref a
  | _ => False
inductive ArgRs (K : PySem.W.Frag) (cl : Nat → Addr) (F : Hp) (α : List Addr) : List V → List R → Prop
  | nil : ArgRs K cl F α [] []
  | cons {v : V} {r : R} {vs : List V} {rs : List R} : ArgR K cl F α v r → ArgRs K cl F α vs rs → ArgRs K cl F α (v :: vs) (r :: rs)
def tma (K : PySem.W.Frag) (cl : Nat → Addr) (m : MA) : TA := fun σ H Q => ∃ F α δ μ rs μ', Conc K cl F α μ H ∧ EnvOk K cl F α σ δ ∧ m δ μ = some (rs, μ') ∧
  ∀ vs F' H', Evo F α H F' α H' → Conc K cl F' α μ' H' → ArgRs K cl F' α vs rs → Q vs H'
def EndOk (K : PySem.W.Frag) (cl : Nat → Addr) (F : Hp) (α : List Addr) (H : Hp) (E : Ends) : Flo → Prop
  | .nx δ μ => ∀ F' α' σ' H', Evo F α H F' α' H' → Conc K cl F' α' μ H' → EnvOk K cl F' α' σ' δ → E.nx σ' H'
  | .bk δ μ => ∀ F' α' σ' H', Evo F α H F' α' H' → Conc K cl F' α' μ H' → EnvOk K cl F' α' σ' δ → E.bk σ' H'
  | .ct δ μ => ∀ F' α' σ' H', Evo F α H F' α' H' → Conc K cl F' α' μ H' → EnvOk K cl F' α' σ' δ → E.ct σ' H'
  | .rt r μ => ∀ v F' α' H', Evo F α H F' α' H' → Conc K cl F' α' μ H' → RepR K cl H F' α' H' v r → E.rt v H'
def tms (K : PySem.W.Frag) (cl : Nat → Addr) (m : MS) : TS := fun E σ H => ∃ F α δ μ fl, Conc K cl F α μ H ∧ EnvOk K cl F α σ δ ∧ m δ μ = some fl ∧ EndOk K cl F α H E fl
abbrev SE (X : Cx) (cl : Nat → Addr) (e : Expr) (m : ME) : Prop := PE X e (tm X.K cl m)
abbrev ST (X : Cx) (cl : Nat → Addr) (e : Expr) (m : MT) : Prop := PT X e (tmt X.K cl m)
abbrev SA (X : Cx) (cl : Nat → Addr) (es : List Expr) (m : MA) : Prop := PA X es (tma X.K cl m)
abbrev SS (X : Cx) (cl : Nat → Addr) (st : Stmt) (m : MS) : Prop := PS X st (tms X.K cl m)
abbrev SSs (X : Cx) (cl : Nat → Addr) (sts : List Stmt) (m : MS) : Prop := PSs X sts (tms X.K cl m)
theorem PE.weak {X : Cx} {e : Expr} {t t' : TE} (h : PE X e t) (k : ∀ σ H Q, t' σ H Q → t σ H Q) : PE X e t' := ⟨fun pins s σ H Q I hw => h.run pins s σ H Q I (k σ H Q hw)⟩
theorem PT.weak {X : Cx} {e : Expr} {t t' : TT} (h : PT X e t) (k : ∀ σ H Q, t' σ H Q → t σ H Q) : PT X e t' := ⟨fun pins s σ H Q I hw => h.run pins s σ H Q I (k σ H Q hw)⟩
theorem PW.weak {X : Cx} {e : Expr} {t t' : TT} (h : PW X e t) (k : ∀ σ H Q, t' σ H Q → t σ H Q) : PW X e t' := ⟨fun wh pins s σ H Q I hw => h.run wh pins s σ H Q I (k σ H Q hw)⟩
theorem PA.weak {X : Cx} {e : List Expr} {t t' : TA} (h : PA X e t) (k : ∀ σ H Q, t' σ H Q → t σ H Q) : PA X e t' := ⟨fun pos pins s σ H Q I hw => h.run pos pins s σ H Q I (k σ H Q hw)⟩
theorem PS.weak {X : Cx} {e : Stmt} {t t' : TS} (h : PS X e t) (k : ∀ E σ H, t' E σ H → t E σ H) : PS X e t' := ⟨fun pins s σ H E I hw => h.run pins s σ H E I (k E σ H hw)⟩
theorem PSs.weak {X : Cx} {e : List Stmt} {t t' : TS} (h : PSs X e t) (k : ∀ E σ H, t' E σ H → t E σ H) : PSs X e t' := ⟨fun pins s σ H E I hw => h.run pins s σ H E I (k E σ H hw)⟩
section
variable {X : Cx} {cl : Nat → Addr} {e a b c : Expr} {es : List Expr} {m ma mb mc : ME} {mt mu : MT} {pos : Pos}
/-! ### names, constants -/
@[simp] def mVar (i : Nat) : ME := fun δ μ => match δ[i]? with
  | some (.dat d) => some (.dat d, μ)
  | some (.cel k) => some (.cel k, μ)
  | _ => none
@[simp] def mC (d : D) : ME := fun _ μ => some (.dat d, μ)
theorem se_var {i : Nat} {x : Str} (hN : X.N[i]? = some x := by rfl) (hv : Vis X.env.scope x := by first | exact Or.inl rfl | exact Or.inr (Or.inl rfl) | exact Or.inr (Or.inr rfl)) (hd : (x == ("__debug__" : Str)) = false := by decide)
    (hcd : (x == ("__classdict__" : Str)) = false := by decide) : SE X cl (.Name x pos) (mVar i) := by
  refine PE.weak (pe_var hN hv hd hcd) fun σ H Q ⟨F, α, δ, μ, r, μ', C, Ee, hm, k⟩ => ?_
  unfold mVar at hm
  split at hm
  · rename_i d hd
    cases hm
    obtain ⟨v, h1, h2⟩ := Ee.2.1 i d hd
    exact ⟨v, h1, k v F H Evo.refl C h2⟩
  · rename_i kk hd
    cases hm
    obtain ⟨ad, h1, h2⟩ := Ee.2.2 i kk hd
    exact ⟨.ref ad, h2, k _ F H Evo.refl C ⟨ad, h1, rfl⟩⟩
  · cases hm
theorem se_c {d : D} {v : V} (h : PE X e (tC v)) (hv : ∀ F, Rep X.K cl F v d) : SE X cl e (mC d) := by
  refine PE.weak h fun σ H Q ⟨F, α, δ, μ, r, μ', C, Ee, hm, k⟩ => ?_
  cases hm
  exact k v F H Evo.refl C (hv F)
theorem se_int {i : Int} {j : Nat} : SE X cl (.Constant (.int i) j pos) (mC (.int i)) := se_c pe_int fun _ => .int i
theorem se_bl {i : Bool} {j : Nat} : SE X cl (.Constant (.bool i) j pos) (mC (.bl i)) := se_c pe_bl fun _ => .bl i
theorem se_non {j : Nat} : SE X cl (.Constant .none j pos) (mC .non) := se_c pe_non fun _ => .non
theorem se_str {i : Str} {j : Nat} : SE X cl (.Constant (.str i) j pos) (mC (.str i)) := se_c pe_str fun _ => .str i
/-- freeze what comes -/
@[simp] def mFz (m : ME) : ME := fun δ μ => match m δ μ with
  | some (r, μ') => some (froz r, μ')
  | none => none
theorem se_fz (h : SE X cl e m) : SE X cl e (mFz m) := by
  refine PE.weak h fun σ H Q ⟨F, α, δ, μ, r, μ', C, Ee, hm, k⟩ => ?_
  unfold mFz at hm
  split at hm
  · rename_i r0 μ0 h0
    cases hm
    refine ⟨F, α, δ, μ, r0, μ', C, Ee, h0, fun v F' H' ev C' rr => ?_⟩
    obtain ⟨F2, e2, c2, r2⟩ := freeze ev C' rr
    exact k v F2 H' e2 c2 r2
  · cases hm
end
end DL
set_option Elab.async false
set_option linter.all false
set_option maxRecDepth 100000
set_option maxHeartbeats 1000000
namespace DL
open PySem L2
/-! ### lists of a result -/
@[simp] def lstOf : R → Mu → Option (List D)
  | .dat (.lst xs), _ => some xs
  | .fr xs, _ => some xs
  | .cel k, μ => μ[k]?
  | _, _ => none
section
variable {K : PySem.W.Frag} {cl : Nat → Addr} {F H H0 : Hp} {α : List Addr} {μ : Mu} {v x y : V} {r rx ry : R} {xs ys : List D}
theorem cell_at (C : Conc K cl F α μ H) {k : Nat} {a : Addr} (ha : α[k]? = some a) (hx : μ[k]? = some xs) : ∃ vs, H a = some (.lst vs) ∧ Reps K cl F vs xs := C.cell k a xs ha hx
theorem lstOf_ok (C : Conc K cl F α μ H) (h : RepR K cl H0 F α H x r) (q : lstOf r μ = some xs) : ∃ a vs, x = .ref a ∧ H a = some (.lst vs) ∧ Reps K cl F vs xs := by
  cases r with
  | no => cases q
  | dat d =>
    cases d with
    | lst zs =>
      cases q
      cases h with
      | lst h1 h2 => exact ⟨_, _, rfl, C.sub _ _ h1, h2⟩
    | _ => cases q
  | cel k =>
    obtain ⟨a, h1, rfl⟩ := h
    obtain ⟨vs, h2, h3⟩ := cell_at C h1 q
    exact ⟨a, vs, rfl, h2, h3⟩
  | fr zs =>
    cases q
    obtain ⟨a, vs, rfl, _, _, _, h5, h6⟩ := h
    exact ⟨a, vs, rfl, h5, h6⟩
/-- a list or the script or a tuple, read -/
inductive Sq where
  | l (xs : List D) | t (xs : List D)
@[simp] def sqOf : R → Mu → Option Sq
  | .dat (.tup xs), _ => some (.t xs)
  | .dat (.scr ns), _ => some (.l (ns.map D.int))
  | r, μ => (lstOf r μ).map .l
@[simp] def Sq.all : Sq → List D
  | .l xs => xs
  | .t xs => xs
def Sq.At (K : PySem.W.Frag) (H : Hp) (a : Addr) (vs : List V) : Sq → Prop
  | .l _ => SqL K H a vs
  | .t _ => SqT K H a vs
theorem sqOf_ok (C : Conc K cl F α μ H) (h : RepR K cl H0 F α H x r) {q : Sq} (e : sqOf r μ = some q) :
    ∃ a vs, x = .ref a ∧ Reps K cl F vs q.all ∧ q.At K H a vs := by
  have gen : (lstOf r μ).map Sq.l = some q → ∃ a vs, x = .ref a ∧ Reps K cl F vs q.all ∧ q.At K H a vs := by
    intro e
    cases e1 : lstOf r μ with
    | none =>
      rw [e1] at e
      cases e
    | some xs =>
      rw [e1] at e
      cases e
      obtain ⟨a, vs, h1, h2, h3⟩ := lstOf_ok C h e1
      exact ⟨a, vs, h1, h3, SqL.of h2⟩
  cases r with
  | no => exact gen e
  | cel k => exact gen e
  | fr zs => exact gen e
  | dat d =>
    cases d with
    | tup zs =>
      cases e
      cases h with
      | tup h1 h2 => exact ⟨_, _, rfl, h2, Same.sqT C.sub h1⟩
    | scr ns =>
      cases e
      cases h with
      | scr h1 => exact ⟨_, _, rfl, Reps.ints ns, C.sub.seq h1⟩
    | _ => exact gen e
end

/-! ### operators by values -/
def OpSem (K : PySem.W.Frag) (cl : Nat → Addr) (r : R2) (f : R → R → Mu → Option R) : Prop := ∀ (F : Hp) (α : List Addr) (μ : Mu) (H H0 : Hp) (x y : V) (rx ry z : R) (Q : VK), Conc K cl F α μ H → RepR K cl H0 F α H x rx → RepR K cl H0 F α H y ry → f rx ry μ = some z →
  (∀ v F' H', Evo F α H F' α H' → Conc K cl F' α μ H' → RepR K cl H F' α H' v z → Q v H') → r x y H Q
@[simp] def mOp (f : R → R → Mu → Option R) (ma mb : ME) : ME := fun δ μ => match ma δ μ with
  | none => none
  | some (x, μ1) => match mb δ μ1 with
    | none => none
    | some (y, μ2) => match f x y μ2 with
      | none => none
      | some z => some (z, μ2)
section
variable {X : Cx} {cl : Nat → Addr} {e a b c : Expr} {es : List Expr} {m ma mb mc : ME} {pos : Pos} {r r' : R2} {f f' : R → R → Mu → Option R} {K : PySem.W.Frag}
theorem op_imp (hf : OpSem K cl r f) : ∀ σ H Q, tm K cl (mOp f ma mb) σ H Q → tOp r (tm K cl ma) (tm K cl mb) σ H Q := fun σ H Q ⟨F, α, δ, μ, z, μ', C, Ee, hm, k⟩ => by
  unfold mOp at hm
  split at hm
  · cases hm
  rename_i x1 μ1 h1
  split at hm
  · cases hm
  rename_i y1 μ2 h2
  split at hm
  · cases hm
  rename_i z1 h3
  cases hm
  refine ⟨F, α, δ, μ, x1, μ1, C, Ee, h1, fun v F1 H1 e1 c1 r1 => ⟨F1, α, δ, μ1, y1, μ', c1, Ee.step e1, h2, fun w F2 H2 e2 c2 r2 => ?_⟩⟩
  exact hf F2 α μ' H2 H v w x1 y1 z Q c2 (r1.step e2) (r2.back e1.dom) h3 fun u F3 H3 e3 c3 r3 => k u F3 H3 (e1.trans (e2.trans e3)) c3 (r3.back fun p hp => e1.dom p (e2.dom p hp))
theorem se_op {op : Operator} (ho : OpR X (binaryOp op) r) (hf : OpSem X.K cl r f) (ha : SE X cl a ma) (hb : SE X cl b mb) : SE X cl (.BinOp a op b pos) (mOp f ma mb) := PE.weak (pe_op ho ha hb) (op_imp hf)
theorem se_cmp {op : CmpOp} (ho : OpR X (compareOp op) r) (hf : OpSem X.K cl r f) (ha : SE X cl a ma) (hb : SE X cl b mb) (hm : behindInMarks op b = false) : SE X cl (.Compare a [op] [b] pos) (mOp f ma mb) := PE.weak (pe_cmpR ho ha hb hm) (op_imp hf)
/-- a bool out of a value -/
@[simp] def mB (m : ME) : MT := fun δ μ => match m δ μ with
  | some (.dat (.bl b), μ') => some (b, μ')
  | _ => none
theorem mB_of {δ : Sl} {μ μ' : Mu} {k : Bool} (h : mB m δ μ = some (k, μ')) : m δ μ = some (.dat (.bl k), μ') := by
  unfold mB at h
  split at h
  · rename_i b μ'' h0
    cases h
    exact h0
  · cases h
theorem rep_bl {F : Hp} {v : V} {k : Bool} (h : Rep K cl F v (.bl k)) : v = .bl k := by
  cases h
  rfl
theorem rep_int {F : Hp} {v : V} {k : Int} (h : Rep K cl F v (.int k)) : v = .int k := by
  cases h
  rfl
theorem rep_str {F : Hp} {v : V} {k : Str} (h : Rep K cl F v (.str k)) : v = .str k := by
  cases h
  rfl
theorem test_imp {t : TE} (h : ∀ σ H Q, tm K cl m σ H Q → t σ H Q) : ∀ σ H Q, tmt K cl (mB m) σ H Q → tTest t σ H Q := fun σ H Q ⟨F, α, δ, μ, k, μ', C, Ee, hm, q⟩ =>
  h σ H _ ⟨F, α, δ, μ, _, μ', C, Ee, mB_of hm, fun v F' H' ev C' r => ⟨k, rep_bl r, q F' H' ev C'⟩⟩
theorem st_cmp {op : CmpOp} (ho : OpR X (compareOp op) r) (hf : OpSem X.K cl r f) (ha : SE X cl a ma) (hb : SE X cl b mb) (hm : behindInMarks op b = false) : ST X cl (.Compare a [op] [b] pos) (mB (mOp f ma mb)) :=
  PT.weak (pt_cmpR ho ha hb hm) (test_imp (op_imp hf))
theorem st_val (h : SE X cl e m) (he : ∀ whole, isTrue e X.env whole = (do let v ← whole; standAt e.pos; holding [v] (truthy v)) := by intro _; rfl) : ST X cl e (mB m) :=
  PT.weak (pt_val h he) (test_imp fun _ _ _ h => h)
/-! chains -/
@[simp] def mChain (f f' : R → R → Mu → Option R) (ma mb mc : ME) : ME := fun δ μ => match ma δ μ with
  | none => none
  | some (x, μ1) => match mb δ μ1 with
    | none => none
    | some (y, μ2) => match f x y μ2 with
      | some (.dat (.bl true)) => match mc δ μ2 with
        | none => none
        | some (z, μ3) => match f' y z μ3 with
          | none => none
          | some u => some (u, μ3)
      | some (.dat (.bl false)) => some (.dat (.bl false), μ2)
      | _ => none
theorem chain_imp (hf : OpSem K cl r f) (hf' : OpSem K cl r' f') : ∀ σ H Q, tm K cl (mChain f f' ma mb mc) σ H Q → tChain r r' (tm K cl ma) (tm K cl mb) (tm K cl mc) σ H Q := fun σ H Q ⟨F, α, δ, μ, z, μ', C, Ee, hm, k⟩ => by
  unfold mChain at hm
  split at hm
  · cases hm
  rename_i x1 μ1 h1
  split at hm
  · cases hm
  rename_i y1 μ2 h2
  refine ⟨F, α, δ, μ, x1, μ1, C, Ee, h1, fun v F1 H1 e1 c1 r1 => ⟨F1, α, δ, μ1, y1, μ2, c1, Ee.step e1, h2, fun w F2 H2 e2 c2 r2 => ?_⟩⟩
  split at hm
  · rename_i h3
    split at hm
    · cases hm
    rename_i z1 μ3 h4
    split at hm
    · cases hm
    rename_i u1 h5
    cases hm
    refine hf F2 α μ2 H2 H v w x1 y1 _ _ c2 (r1.step e2) (r2.back e1.dom) h3 fun u F3 H3 e3 c3 r3 => ⟨true, rep_bl r3, iteT ?_⟩
    refine ⟨F3, α, δ, μ2, z1, μ', c3, (Ee.step e1).step (e2.trans e3), h4, fun w2 F4 H4 e4 c4 r4 => ?_⟩
    exact hf' F4 α μ' H4 H w w2 y1 z1 z Q c4 ((r2.back e1.dom).step (e3.trans e4)) (r4.back fun p hp => e1.dom p (e2.dom p (e3.dom p hp))) h5 fun u F5 H5 e5 c5 r5 => k u F5 H5 (e1.trans (e2.trans (e3.trans (e4.trans e5)))) c5 (r5.back fun p hp => e1.dom p (e2.dom p (e3.dom p (e4.dom p hp))))
  · rename_i h3
    cases hm
    refine hf F2 α μ' H2 H v w x1 y1 _ _ c2 (r1.step e2) (r2.back e1.dom) h3 fun u F3 H3 e3 c3 r3 => ⟨false, rep_bl r3, iteF ?_⟩
    exact k _ F3 H3 (e1.trans (e2.trans e3)) c3 (.bl false)
  · cases hm
theorem se_chain {op op' : CmpOp} (hf : OpSem X.K cl r f) (hf' : OpSem X.K cl r' f') (h : PE X (.Compare a [op, op'] [b, c] pos) (tChain r r' (tm X.K cl ma) (tm X.K cl mb) (tm X.K cl mc))) :
    SE X cl (.Compare a [op, op'] [b, c] pos) (mChain f f' ma mb mc) := PE.weak h (chain_imp hf hf')
theorem st_chain {op op' : CmpOp} (hf : OpSem X.K cl r f) (hf' : OpSem X.K cl r' f') (h : PT X (.Compare a [op, op'] [b, c] pos) (tTest (tChain r r' (tm X.K cl ma) (tm X.K cl mb) (tm X.K cl mc)))) :
    ST X cl (.Compare a [op, op'] [b, c] pos) (mB (mChain f f' ma mb mc)) := PT.weak h (test_imp (chain_imp hf hf'))
/-! one operand -/
@[simp] def mUn (f : Int → Int) (m : ME) : ME := fun δ μ => match m δ μ with
  | some (.dat (.int i), μ') => some (.dat (.int (f i)), μ')
  | _ => none
theorem se_neg (h : SE X cl e m) : SE X cl (.UnaryOp .USub e pos) (mUn (fun i => -i) m) := by
  refine PE.weak (pe_un un_neg h) fun σ H Q ⟨F, α, δ, μ, z, μ', C, Ee, hm, k⟩ => ?_
  unfold mUn at hm
  split at hm
  · rename_i i μ'' h0
    cases hm
    refine ⟨F, α, δ, μ, _, μ', C, Ee, h0, fun v F1 H1 e1 c1 r1 => ⟨i, rep_int r1, k _ F1 H1 e1 c1 (.int _)⟩⟩
  · cases hm
@[simp] def mNot (m : ME) : ME := fun δ μ => match m δ μ with
  | some (.dat (.bl b), μ') => some (.dat (.bl (!b)), μ')
  | _ => none
theorem se_not (h : SE X cl e m) : SE X cl (.UnaryOp .Not e pos) (mNot m) := by
  refine PE.weak (pe_not h) fun σ H Q ⟨F, α, δ, μ, z, μ', C, Ee, hm, k⟩ => ?_
  unfold mNot at hm
  split at hm
  · rename_i i μ'' h0
    cases hm
    refine ⟨F, α, δ, μ, _, μ', C, Ee, h0, fun v F1 H1 e1 c1 r1 => ⟨i, rep_bl r1, k _ F1 H1 e1 c1 (.bl _)⟩⟩
  · cases hm
@[simp] def mtNot (m : MT) : MT := fun δ μ => match m δ μ with
  | some (b, μ') => some (!b, μ')
  | none => none
theorem st_not {mt : MT} (h : ST X cl e mt) : ST X cl (.UnaryOp .Not e pos) (mtNot mt) := by
  refine PT.weak (pt_not h) fun σ H Q ⟨F, α, δ, μ, z, μ', C, Ee, hm, k⟩ => ?_
  unfold mtNot at hm
  split at hm
  · rename_i i μ'' h0
    cases hm
    exact ⟨F, α, δ, μ, _, μ', C, Ee, h0, fun F1 H1 e1 c1 => k F1 H1 e1 c1⟩
  · cases hm
/-! truth, and, or -/
@[simp] def truR : R → Mu → Option Bool
  | .dat .non, _ => some false
  | .dat (.bl b), _ => some b
  | .dat (.int i), _ => some (i != 0)
  | r, μ => (sqOf r μ).map fun q => !q.all.isEmpty
theorem isEmpty_reps {F : Hp} {vs : List V} {xs : List D} (h : Reps K cl F vs xs) : vs.isEmpty = xs.isEmpty := by
  cases h <;> rfl
theorem truR_ok {F H H0 : Hp} {α : List Addr} {μ : Mu} {x : V} {r : R} {k : Bool} (C : Conc K cl F α μ H) (h : RepR K cl H0 F α H x r) (q : truR r μ = some k) : TruV K x H k := by
  have gen : (sqOf r μ).map (fun q => !q.all.isEmpty) = some k → TruV K x H k := by
    intro e
    cases e1 : sqOf r μ with
    | none =>
      rw [e1] at e
      cases e
    | some z =>
      rw [e1] at e
      cases e
      obtain ⟨a, vs, rfl, h2, h3⟩ := sqOf_ok C h e1
      show TruV K (.ref a) H (!z.all.isEmpty)
      rw [← isEmpty_reps h2]
      cases z with
      | l xs => exact .inl ⟨vs, h3, rfl⟩
      | t xs => exact .inr (.inl ⟨vs, h3, rfl⟩)
  cases r with
  | no => exact gen q
  | cel j => exact gen q
  | fr zs => exact gen q
  | dat d =>
    cases d with
    | non =>
      cases q
      cases h
      rfl
    | bl b =>
      cases q
      cases h
      rfl
    | int i =>
      cases q
      cases h
      rfl
    | _ => exact gen q
@[simp] def mOr (ma mb : ME) : ME := fun δ μ => match ma δ μ with
  | none => none
  | some (x, μ1) => match truR x μ1 with
    | some true => some (x, μ1)
    | some false => mb δ μ1
    | none => none
@[simp] def mAnd (ma mb : ME) : ME := fun δ μ => match ma δ μ with
  | none => none
  | some (x, μ1) => match truR x μ1 with
    | some false => some (x, μ1)
    | some true => mb δ μ1
    | none => none
theorem se_one {op : BoolOp} (h : SE X cl e m) : SE X cl (.BoolOp op [e] pos) m := pe_one h
theorem se_or {rest : List Expr} (ha : SE X cl a ma) (hb : SE X cl (.BoolOp .Or (b :: rest) pos) mb) : SE X cl (.BoolOp .Or (a :: b :: rest) pos) (mOr ma mb) := by
  refine PE.weak (pe_orT ha hb) fun σ H Q ⟨F, α, δ, μ, z, μ', C, Ee, hm, k⟩ => ?_
  unfold mOr at hm
  split at hm
  · cases hm
  rename_i x1 μ1 h1
  refine ⟨F, α, δ, μ, x1, μ1, C, Ee, h1, fun v F1 H1 e1 c1 r1 => ?_⟩
  split at hm
  · rename_i h2
    cases hm
    exact ⟨true, truR_ok c1 r1 h2, iteT (k v F1 H1 e1 c1 r1)⟩
  · rename_i h2
    exact ⟨false, truR_ok c1 r1 h2, iteF ⟨F1, α, δ, μ1, z, μ', c1, Ee.step e1, hm, fun w F2 H2 e2 c2 r2 => k w F2 H2 (e1.trans e2) c2 (r2.back e1.dom)⟩⟩
  · cases hm
theorem se_and {rest : List Expr} (ha : SE X cl a ma) (hb : SE X cl (.BoolOp .And (b :: rest) pos) mb) : SE X cl (.BoolOp .And (a :: b :: rest) pos) (mAnd ma mb) := by
  refine PE.weak (pe_andT ha hb) fun σ H Q ⟨F, α, δ, μ, z, μ', C, Ee, hm, k⟩ => ?_
  unfold mAnd at hm
  split at hm
  · cases hm
  rename_i x1 μ1 h1
  refine ⟨F, α, δ, μ, x1, μ1, C, Ee, h1, fun v F1 H1 e1 c1 r1 => ?_⟩
  split at hm
  · rename_i h2
    cases hm
    exact ⟨false, truR_ok c1 r1 h2, iteF (k v F1 H1 e1 c1 r1)⟩
  · rename_i h2
    exact ⟨true, truR_ok c1 r1 h2, iteT ⟨F1, α, δ, μ1, z, μ', c1, Ee.step e1, hm, fun w F2 H2 e2 c2 r2 => k w F2 H2 (e1.trans e2) c2 (r2.back e1.dom)⟩⟩
  · cases hm
@[simp] def mtOr (ma mb : MT) : MT := fun δ μ => match ma δ μ with
  | some (true, μ1) => some (true, μ1)
  | some (false, μ1) => mb δ μ1
  | none => none
@[simp] def mtAnd (ma mb : MT) : MT := fun δ μ => match ma δ μ with
  | some (false, μ1) => some (false, μ1)
  | some (true, μ1) => mb δ μ1
  | none => none
abbrev SW (X : Cx) (cl : Nat → Addr) (e : Expr) (m : MT) : Prop := PW X e (tmt X.K cl m)
variable {mt mu : MT} {rest : List Expr}
theorem sw_and1 (h : ST X cl e mt) : SW X cl (.BoolOp .And [e] pos) mt := pw_and1 h
theorem sw_or1 (h : ST X cl e mt) : SW X cl (.BoolOp .Or [e] pos) mt := pw_or1 h
theorem sw_and (ha : ST X cl a mt) (hb : SW X cl (.BoolOp .And (b :: rest) pos) mu) : SW X cl (.BoolOp .And (a :: b :: rest) pos) (mtAnd mt mu) := by
  refine PW.weak (pw_and ha hb) fun σ H Q ⟨F, α, δ, μ, z, μ', C, Ee, hm, k⟩ => ?_
  unfold mtAnd at hm
  split at hm
  · rename_i μ1 h1
    cases hm
    exact ⟨F, α, δ, μ, _, μ', C, Ee, h1, fun F1 H1 e1 c1 => iteF (k F1 H1 e1 c1)⟩
  · rename_i μ1 h1
    exact ⟨F, α, δ, μ, _, μ1, C, Ee, h1, fun F1 H1 e1 c1 => iteT ⟨F1, α, δ, μ1, z, μ', c1, Ee.step e1, hm, fun F2 H2 e2 c2 => k F2 H2 (e1.trans e2) c2⟩⟩
  · cases hm
theorem sw_or (ha : ST X cl a mt) (hb : SW X cl (.BoolOp .Or (b :: rest) pos) mu) : SW X cl (.BoolOp .Or (a :: b :: rest) pos) (mtOr mt mu) := by
  refine PW.weak (pw_or ha hb) fun σ H Q ⟨F, α, δ, μ, z, μ', C, Ee, hm, k⟩ => ?_
  unfold mtOr at hm
  split at hm
  · rename_i μ1 h1
    cases hm
    exact ⟨F, α, δ, μ, _, μ', C, Ee, h1, fun F1 H1 e1 c1 => iteT (k F1 H1 e1 c1)⟩
  · rename_i μ1 h1
    exact ⟨F, α, δ, μ, _, μ1, C, Ee, h1, fun F1 H1 e1 c1 => iteF ⟨F1, α, δ, μ1, z, μ', c1, Ee.step e1, hm, fun F2 H2 e2 c2 => k F2 H2 (e1.trans e2) c2⟩⟩
  · cases hm
theorem st_w (h : SW X cl e mt) : ST X cl e mt := h.pt
@[simp] def mIf (mt : MT) (ma mb : ME) : ME := fun δ μ => match mt δ μ with
  | some (true, μ1) => ma δ μ1
  | some (false, μ1) => mb δ μ1
  | none => none
theorem se_if (hc : ST X cl c mt) (ha : SE X cl a ma) (hb : SE X cl b mb) : SE X cl (.IfExp c a b pos) (mIf mt ma mb) := by
  refine PE.weak (pe_ifExp hc ha hb) fun σ H Q ⟨F, α, δ, μ, z, μ', C, Ee, hm, k⟩ => ?_
  unfold mIf at hm
  split at hm
  · rename_i μ1 h1
    exact ⟨F, α, δ, μ, _, μ1, C, Ee, h1, fun F1 H1 e1 c1 => iteT ⟨F1, α, δ, μ1, z, μ', c1, Ee.step e1, hm, fun v F2 H2 e2 c2 r2 => k v F2 H2 (e1.trans e2) c2 (r2.back e1.dom)⟩⟩
  · rename_i μ1 h1
    exact ⟨F, α, δ, μ, _, μ1, C, Ee, h1, fun F1 H1 e1 c1 => iteF ⟨F1, α, δ, μ1, z, μ', c1, Ee.step e1, hm, fun v F2 H2 e2 c2 r2 => k v F2 H2 (e1.trans e2) c2 (r2.back e1.dom)⟩⟩
  · cases hm

/-! ### arguments, displays -/
@[simp] def mNil : MA := fun _ μ => some ([], μ)
@[simp] def mCons (m : ME) (ms : MA) : MA := fun δ μ => match m δ μ with
  | none => none
  | some (r, μ1) => match ms δ μ1 with
    | none => none
    | some (rs, μ2) => some (froz r :: rs, μ2)
theorem sa_nil : SA X cl [] mNil := by
  refine PA.weak pa_nil fun σ H Q ⟨F, α, δ, μ, z, μ', C, Ee, hm, k⟩ => ?_
  cases hm
  exact k [] F H Evo.refl C .nil
theorem arg_of {H0 F H : Hp} {α : List Addr} {v : V} {r : R} (h : RepR K cl H0 F α H v (froz r)) : ArgR K cl F α v (froz r) := by
  cases r with
  | no => exact h
  | dat d => exact h
  | cel k => exact h
  | fr xs => exact h
theorem ArgR.step {F F' H H' : Hp} {α α' : List Addr} {v : V} {r : R} (h : ArgR K cl F α v r) (e : Evo F α H F' α' H') : ArgR K cl F' α' v r := by
  cases r with
  | no => exact h
  | dat d => exact Rep.mono e.ff h
  | cel k =>
    obtain ⟨a, h1, h2⟩ := h
    obtain ⟨x, rfl⟩ := e.ext
    exact ⟨a, by rw [List.getElem?_append_left (List.getElem?_eq_some_iff.mp h1).1]; exact h1, h2⟩
  | fr xs => exact h
theorem sa_cons {ms : MA} (ha : SE X cl a m) (hr : SA X cl es ms) (hs : starEach (a :: es) X.env = (false, eval a X.env) :: starEach es X.env := by rfl) : SA X cl (a :: es) (mCons m ms) := by
  refine PA.weak (pa_cons ha hr hs) fun σ H Q ⟨F, α, δ, μ, z, μ', C, Ee, hm, k⟩ => ?_
  unfold mCons at hm
  split at hm
  · cases hm
  rename_i r1 μ1 h1
  split at hm
  · cases hm
  rename_i rs μ2 h2
  cases hm
  refine ⟨F, α, δ, μ, r1, μ1, C, Ee, h1, fun v F1 H1 e1 c1 q1 => ?_⟩
  obtain ⟨F1', e1', c1', q1'⟩ := freeze e1 c1 q1
  refine ⟨F1', α, δ, μ1, rs, μ', c1', Ee.step e1', h2, fun vs F2 H2 e2 c2 q2 => k _ F2 H2 (e1'.trans e2) c2 (.cons ((arg_of q1').step e2) q2)⟩
@[simp] def allD : List R → Option (List D)
  | [] => some []
  | .dat d :: rs => match allD rs with
    | some ds => some (d :: ds)
    | none => none
  | _ => none
theorem allD_ok {F : Hp} {α : List Addr} : ∀ {vs : List V} {rs : List R} {ds : List D}, ArgRs K cl F α vs rs → allD rs = some ds → Reps K cl F vs ds
  | _, _, _, .nil, h => by
    cases h
    exact .nil
  | _, _, _, .cons (r := r) h q, e => by
    cases r with
    | dat d =>
      unfold allD at e
      split at e
      · rename_i ds' h'
        cases e
        exact .cons h (allD_ok q h')
      · cases e
    | _ => cases e
@[simp] def mTup (ms : MA) : ME := fun δ μ => match ms δ μ with
  | none => none
  | some (rs, μ1) => match allD rs with
    | none => none
    | some ds => if ds.length ≤ 100000 then some (.dat (.tup ds), μ1) else none
@[simp] def mLst (ms : MA) : ME := fun δ μ => match ms δ μ with
  | none => none
  | some (rs, μ1) => match allD rs with
    | none => none
    | some ds => if ds.length ≤ 100000 then some (.fr ds, μ1) else none
theorem sz_of {n : Nat} (h : n ≤ 100000) : n ≤ sizeLine := Nat.le_trans h (by decide)
theorem sz_lt {n : Nat} (h : n < 100000) : n < sizeLine := Nat.lt_of_lt_of_le h (by decide)
theorem se_tup {ms : MA} {x1 : Nat} (h : SA X cl es ms) : SE X cl (.Tuple es x1 pos) (mTup ms) := by
  refine PE.weak (pe_tup h) fun σ H Q ⟨F, α, δ, μ, z, μ', C, Ee, hm, k⟩ => ?_
  unfold mTup at hm
  split at hm
  · cases hm
  rename_i rs μ1 h1
  split at hm
  · cases hm
  rename_i ds h2
  split at hm
  · rename_i h3
    cases hm
    refine ⟨F, α, δ, μ, rs, μ', C, Ee, h1, fun vs F1 H1 e1 c1 q1 => ?_⟩
    have q2 := allD_ok q1 h2
    refine ⟨sz_of (by rw [q2.length]; exact h3), fun p hp => ?_⟩
    obtain ⟨e2, c2⟩ := c1.new (o := .tup vs) hp
    exact k _ _ _ (e1.trans e2) c2 (.tup (SqT.of upd_same) (q2.mono e2.ff))
  · cases hm
theorem se_lst {ms : MA} (h : SA X cl es ms) : SE X cl (.List es pos) (mLst ms) := by
  refine PE.weak (pe_lst h) fun σ H Q ⟨F, α, δ, μ, z, μ', C, Ee, hm, k⟩ => ?_
  unfold mLst at hm
  split at hm
  · cases hm
  rename_i rs μ1 h1
  split at hm
  · cases hm
  rename_i ds h2
  split at hm
  · rename_i h3
    cases hm
    refine ⟨F, α, δ, μ, rs, μ', C, Ee, h1, fun vs F1 H1 e1 c1 q1 => ?_⟩
    have q2 := allD_ok q1 h2
    refine ⟨sz_of (by rw [q2.length]; exact h3), fun p hp => ?_⟩
    obtain ⟨e2, c2, r2⟩ := c1.newL hp q2
    exact k _ _ _ (e1.trans e2) c2 (r2.back e1.dom)
  · cases hm
end
end DL
set_option Elab.async false
set_option linter.all false
set_option maxRecDepth 100000
set_option maxHeartbeats 1000000
namespace DL
open PySem L2
section
variable {X : Cx} {cl : Nat → Addr} {e a b c : Expr} {es : List Expr} {m ma mb mc : ME} {pos : Pos} {r r' : R2} {f f' : R → R → Mu → Option R} {K : PySem.W.Frag}
/-! ### the operators -/
@[simp] def fI (C : Int → Int → Bool) (g : Int → Int → D) : R → R → Mu → Option R
  | .dat (.int i), .dat (.int j), _ => if C i j then some (.dat (g i j)) else none
  | _, _, _ => none
theorem sem_I {C : Int → Int → Prop} {Cb : Int → Int → Bool} {g : Int → Int → V} {gd : Int → Int → D} (hC : ∀ i j, Cb i j = true → C i j) (hg : ∀ i j F, Rep K cl F (g i j) (gd i j)) : OpSem K cl (rI C g) (fI Cb gd) := by
  intro F α μ H H0 x y rx ry z Q C' h1 h2 hz k
  unfold fI at hz
  split at hz
  · rename_i i j
    split at hz
    · rename_i hc
      cases hz
      exact ⟨i, j, rep_int h1, rep_int h2, hC i j hc, k _ F H Evo.refl C' (hg i j F)⟩
    · cases hz
  · cases hz
theorem sem_I0 {g : Int → Int → V} {gd : Int → Int → D} (hg : ∀ i j F, Rep K cl F (g i j) (gd i j)) : OpSem K cl (rI0 g) (fI (fun _ _ => true) gd) := by
  intro F α μ H H0 x y rx ry z Q C' h1 h2 hz k
  unfold fI at hz
  split at hz
  · rename_i i j
    split at hz
    · rename_i hc
      cases hz
      exact ⟨i, j, rep_int h1, rep_int h2, k _ F H Evo.refl C' (hg i j F)⟩
    · cases hz
  · cases hz
abbrev fSub := fI (fun _ _ => true) fun i j => .int (i - j)
abbrev fDiv := fI (fun _ j => decide (0 < j ∧ j < 1073741824)) fun i j => .int (i / j)
abbrev fMod := fI (fun _ j => decide (0 < j)) fun i j => .int (i % j)
abbrev fPow := fI (fun i j => decide (0 ≤ j ∧ j ≤ 1000000 ∧ i.natAbs < 2 ^ 64)) fun i j => .int (i ^ j.toNat)
abbrev fLtI := fI (fun _ _ => true) fun i j => .bl (decide (i < j))
abbrev fLeI := fI (fun _ _ => true) fun i j => .bl (decide (i ≤ j))
abbrev fGtI := fI (fun _ _ => true) fun i j => .bl (decide (j < i))
abbrev fGeI := fI (fun _ _ => true) fun i j => .bl (decide (j ≤ i))
theorem se_sub (ha : SE X cl a ma) (hb : SE X cl b mb) : SE X cl (.BinOp a .Sub b pos) (mOp fSub ma mb) := se_op op_sub (sem_I0 fun _ _ _ => .int _) ha hb
theorem se_div (ha : SE X cl a ma) (hb : SE X cl b mb) : SE X cl (.BinOp a .FloorDiv b pos) (mOp fDiv ma mb) := se_op op_fdiv (sem_I (fun i j h => show CDiv i j from of_decide_eq_true (p := 0 < j ∧ j < 1073741824) h) fun _ _ _ => .int _) ha hb
theorem se_mod (ha : SE X cl a ma) (hb : SE X cl b mb) : SE X cl (.BinOp a .Mod b pos) (mOp fMod ma mb) := se_op op_mod (sem_I (fun _ _ h => of_decide_eq_true h) fun _ _ _ => .int _) ha hb
theorem se_pow (ha : SE X cl a ma) (hb : SE X cl b mb) : SE X cl (.BinOp a .Pow b pos) (mOp fPow ma mb) := se_op op_pow (sem_I (fun i j h => show CPow i j from of_decide_eq_true (p := 0 ≤ j ∧ j ≤ 1000000 ∧ i.natAbs < 2 ^ 64) h) fun _ _ _ => .int _) ha hb
/-! plus: ints, texts, tuples, lists -/
@[simp] def fAdd : R → R → Mu → Option R
  | .dat (.int i), .dat (.int j), _ => some (.dat (.int (i + j)))
  | .dat (.str x), .dat (.str y), _ => if x.length + y.length ≤ 100000 then some (.dat (.str (x ++ y))) else none
  | .dat (.tup xs), .dat (.tup ys), _ => if xs.length + ys.length ≤ 100000 then some (.dat (.tup (xs ++ ys))) else none
  | x, y, μ => match lstOf x μ, lstOf y μ with
    | some xs, some ys => if xs.length + ys.length ≤ 100000 then some (.fr (xs ++ ys)) else none
    | _, _ => none
def rAddAll (K : PySem.W.Frag) : R2 := fun x y H Q => (rI0 (fun i j => .int (i + j)) x y H Q) ∨ ((∃ i j, x = .str i ∧ y = .str j ∧ i.length + j.length ≤ sizeLine ∧ Q (.str (i ++ j)) H) ∨ (rCatA K x y H Q ∨ rCat x y H Q))
theorem op_addAll : OpR X (binaryOp .Add) (rAddAll X.K) := OpR.or op_add (OpR.or op_add_str (OpR.or op_catA op_cat))
theorem sem_add : OpSem K cl (rAddAll K) fAdd := by
  intro F α μ H H0 x y rx ry z Q C h1 h2 hz k
  have gen : (match lstOf rx μ, lstOf ry μ with | some xs, some ys => (if xs.length + ys.length ≤ 100000 then some (R.fr (xs ++ ys)) else none) | _, _ => none) = some z → rAddAll K x y H Q := by
    intro hz
    split at hz
    · rename_i xs ys e1 e2
      split at hz
      · rename_i hl
        cases hz
        obtain ⟨p, vs, rfl, q1, q2⟩ := lstOf_ok C h1 e1
        obtain ⟨p', vs', rfl, q1', q2'⟩ := lstOf_ok C h2 e2
        refine .inr (.inr (.inr ⟨p, p', vs, vs', rfl, rfl, q1, q1', ?_, fun l hl' => ?_⟩))
        · rw [q2.length, q2'.length]
          exact sz_of hl
        · obtain ⟨e3, c3, r3⟩ := C.newL hl' (q2.append q2')
          exact k _ _ _ e3 c3 r3
      · cases hz
    · cases hz
  unfold fAdd at hz
  split at hz
  · rename_i i j
    cases hz
    exact .inl ⟨i, j, rep_int h1, rep_int h2, k _ F H Evo.refl C (.int _)⟩
  · rename_i i j
    split at hz
    · rename_i hl
      cases hz
      exact .inr (.inl ⟨i, j, rep_str h1, rep_str h2, sz_of hl, k _ F H Evo.refl C (.str _)⟩)
    · cases hz
  · rename_i xs ys
    split at hz
    · rename_i hl
      cases hz
      cases h1 with
      | tup q1 q2 =>
        cases h2 with
        | tup q1' q2' =>
          refine .inr (.inr (.inl ⟨_, _, _, _, rfl, rfl, Same.sqT C.sub q1, Same.sqT C.sub q1', ?_, fun e => ?_, fun _ e => ?_, fun _ _ p hp => ?_⟩))
          · rw [q2.length, q2'.length]
            exact sz_of hl
          · subst e
            cases q2
            exact k _ F H Evo.refl C (.tup q1' q2')
          · subst e
            cases q2'
            rw [List.append_nil] at k
            exact k _ F H Evo.refl C (.tup q1 q2)
          · obtain ⟨e3, c3⟩ := C.new (o := .tup _) hp
            exact k _ _ _ e3 c3 (.tup (SqT.of upd_same) ((q2.append q2').mono e3.ff))
    · cases hz
  · exact gen hz
theorem se_add (ha : SE X cl a ma) (hb : SE X cl b mb) : SE X cl (.BinOp a .Add b pos) (mOp fAdd ma mb) := se_op op_addAll sem_add ha hb
/-! times: ints; a list by an int -/
def cMul (i j : Int) : Bool := decide (-(2 ^ 64) < i ∧ i < 2 ^ 64) || decide (-(2 ^ 64) < j ∧ j < 2 ^ 64)
theorem cMul_ok {i j : Int} (h : cMul i j = true) : CMul i j := by
  unfold cMul at h
  rcases Bool.or_eq_true_iff.mp h with h | h
  · exact .inl (of_decide_eq_true h)
  · exact .inr (of_decide_eq_true h)
@[simp] def fMul : R → R → Mu → Option R
  | .dat (.int i), .dat (.int j), _ => if cMul i j then some (.dat (.int (i * j))) else none
  | x, .dat (.int k), μ => match lstOf x μ with
    | some xs => if 0 ≤ k ∧ k ≤ 1000 ∧ xs.length ≤ 1000 then some (.fr (List.replicate k.toNat xs).flatten) else none
    | none => none
  | _, _, _ => none
def rMulAll : R2 := fun x y H Q => rI CMul (fun i j => .int (i * j)) x y H Q ∨ rRep x y H Q
theorem op_mulAll : OpR X (binaryOp .Mult) rMulAll := OpR.or op_mul op_rep
theorem sem_mul : OpSem K cl rMulAll fMul := by
  intro F α μ H H0 x y rx ry z Q C h1 h2 hz k
  unfold fMul at hz
  split at hz
  · rename_i i j
    split at hz
    · rename_i hc
      cases hz
      exact .inl ⟨i, j, rep_int h1, rep_int h2, cMul_ok hc, k _ F H Evo.refl C (.int _)⟩
    · cases hz
  · rename_i n _
    split at hz
    · rename_i xs e1
      split at hz
      · rename_i hl
        cases hz
        obtain ⟨p, vs, rfl, q1, q2⟩ := lstOf_ok C h1 e1
        have hn : n.toNat ≤ 1000 := by omega
        refine .inr ⟨p, n, vs, rfl, rep_int h2, q1, by omega, by omega, ?_, fun l hl' => ?_⟩
        · rw [q2.length]
          exact Nat.le_trans (Nat.mul_le_mul hl.2.2 hn) (by decide)
        · obtain ⟨e3, c3, r3⟩ := C.newL hl' (q2.flat n.toNat)
          exact k _ _ _ e3 c3 r3
      · cases hz
    · cases hz
  · cases hz
theorem se_mul (ha : SE X cl a ma) (hb : SE X cl b mb) : SE X cl (.BinOp a .Mult b pos) (mOp fMul ma mb) := se_op op_mulAll sem_mul ha hb
/-! order of ints (texts, tuples of ints by < alone) -/
def intsOf : List D → Option (List Int)
  | [] => some []
  | .int i :: r => match intsOf r with
    | some is => some (i :: is)
    | none => none
  | _ => none
theorem intsOf_map : ∀ {xs : List D} {ns : List Int}, intsOf xs = some ns → xs = ns.map D.int
  | [], _, h => by
    cases h
    rfl
  | .int i :: r, ns, h => by
    unfold intsOf at h
    split at h
    · rename_i is h'
      cases h
      rw [intsOf_map h']
      rfl
    · cases h
  | .non :: _, _, h => by cases h
  | .bl _ :: _, _, h => by cases h
  | .str _ :: _, _, h => by cases h
  | .tup _ :: _, _, h => by cases h
  | .lst _ :: _, _, h => by cases h
  | .scr _ :: _, _, h => by cases h
  | .ins _ _ :: _, _, h => by cases h
@[simp] def fLt : R → R → Mu → Option R
  | .dat (.int i), .dat (.int j), _ => some (.dat (.bl (decide (i < j))))
  | .dat (.tup xs), .dat (.tup ys), _ => match intsOf xs, intsOf ys with
    | some ns, some ms => some (.dat (.bl (HT.lexLt ns ms)))
    | _, _ => none
  | _, _, _ => none
def rLtAll (K : PySem.W.Frag) : R2 := fun x y H Q => rI0 (fun i j => .bl (decide (i < j))) x y H Q ∨ rLtT K x y H Q
theorem op_ltAll (hu : X.A.units < cLine) : OpR X (compareOp .Lt) (rLtAll X.K) := OpR.or op_lt (op_ltT hu)
theorem sem_lt : OpSem K cl (rLtAll K) fLt := by
  intro F α μ H H0 x y rx ry z Q C h1 h2 hz k
  unfold fLt at hz
  split at hz
  · rename_i i j
    cases hz
    exact .inl ⟨i, j, rep_int h1, rep_int h2, k _ F H Evo.refl C (.bl _)⟩
  · rename_i xs ys
    split at hz
    · rename_i ns ms e1 e2
      cases hz
      rw [intsOf_map e1] at h1
      rw [intsOf_map e2] at h2
      cases h1 with
      | tup q1 q2 =>
        cases h2 with
        | tup q1' q2' =>
          rw [q2.of_ints] at q1
          rw [q2'.of_ints] at q1'
          exact .inr ⟨_, _, ns, ms, rfl, rfl, Same.sqT C.sub q1, Same.sqT C.sub q1', k _ F H Evo.refl C (.bl _)⟩
    · cases hz
  · cases hz
theorem se_lt (hu : X.A.units < cLine) (ha : SE X cl a ma) (hb : SE X cl b mb) : SE X cl (.Compare a [.Lt] [b] pos) (mOp fLt ma mb) := se_cmp (op_ltAll hu) sem_lt ha hb (nomark _)
theorem st_lt (hu : X.A.units < cLine) (ha : SE X cl a ma) (hb : SE X cl b mb) : ST X cl (.Compare a [.Lt] [b] pos) (mB (mOp fLt ma mb)) := st_cmp (op_ltAll hu) sem_lt ha hb (nomark _)
theorem se_le (ha : SE X cl a ma) (hb : SE X cl b mb) : SE X cl (.Compare a [.LtE] [b] pos) (mOp fLeI ma mb) := se_cmp op_le (sem_I0 fun _ _ _ => .bl _) ha hb (nomark _)
theorem st_le (ha : SE X cl a ma) (hb : SE X cl b mb) : ST X cl (.Compare a [.LtE] [b] pos) (mB (mOp fLeI ma mb)) := st_cmp op_le (sem_I0 fun _ _ _ => .bl _) ha hb (nomark _)
theorem se_gt (ha : SE X cl a ma) (hb : SE X cl b mb) : SE X cl (.Compare a [.Gt] [b] pos) (mOp fGtI ma mb) := se_cmp op_gt (sem_I0 fun _ _ _ => .bl _) ha hb (nomark _)
theorem st_gt (ha : SE X cl a ma) (hb : SE X cl b mb) : ST X cl (.Compare a [.Gt] [b] pos) (mB (mOp fGtI ma mb)) := st_cmp op_gt (sem_I0 fun _ _ _ => .bl _) ha hb (nomark _)
theorem se_ge (ha : SE X cl a ma) (hb : SE X cl b mb) : SE X cl (.Compare a [.GtE] [b] pos) (mOp fGeI ma mb) := se_cmp op_ge (sem_I0 fun _ _ _ => .bl _) ha hb (nomark _)
theorem st_ge (ha : SE X cl a ma) (hb : SE X cl b mb) : ST X cl (.Compare a [.GtE] [b] pos) (mB (mOp fGeI ma mb)) := st_cmp op_ge (sem_I0 fun _ _ _ => .bl _) ha hb (nomark _)
theorem se_lele (ha : SE X cl a ma) (hb : SE X cl b mb) (hc : SE X cl c mc) (hm : lastMarks [CmpOp.LtE, CmpOp.LtE] [b, c] = false := by rfl) : SE X cl (.Compare a [.LtE, .LtE] [b, c] pos) (mChain fLeI fLeI ma mb mc) := se_chain (sem_I0 fun _ _ _ => .bl _) (sem_I0 fun _ _ _ => .bl _) (pe_chain op_le op_le ha hb hc (hm := hm))
theorem st_lele (ha : SE X cl a ma) (hb : SE X cl b mb) (hc : SE X cl c mc) (hm : lastMarks [CmpOp.LtE, CmpOp.LtE] [b, c] = false := by rfl) : ST X cl (.Compare a [.LtE, .LtE] [b, c] pos) (mB (mChain fLeI fLeI ma mb mc)) := st_chain (sem_I0 fun _ _ _ => .bl _) (sem_I0 fun _ _ _ => .bl _) (pt_chain op_le op_le ha hb hc (hm := hm))
theorem se_lelt (ha : SE X cl a ma) (hb : SE X cl b mb) (hc : SE X cl c mc) (hm : lastMarks [CmpOp.LtE, CmpOp.Lt] [b, c] = false := by rfl) : SE X cl (.Compare a [.LtE, .Lt] [b, c] pos) (mChain fLeI fLtI ma mb mc) := se_chain (sem_I0 fun _ _ _ => .bl _) (sem_I0 fun _ _ _ => .bl _) (pe_chain op_le op_lt ha hb hc (hm := hm))
theorem st_lelt (ha : SE X cl a ma) (hb : SE X cl b mb) (hc : SE X cl c mc) (hm : lastMarks [CmpOp.LtE, CmpOp.Lt] [b, c] = false := by rfl) : ST X cl (.Compare a [.LtE, .Lt] [b, c] pos) (mB (mChain fLeI fLtI ma mb mc)) := st_chain (sem_I0 fun _ _ _ => .bl _) (sem_I0 fun _ _ _ => .bl _) (pt_chain op_le op_lt ha hb hc (hm := hm))
/-! equality: scalars; data at any depth -/
mutual
def toPy : D → Option PyData
  | .non => some .none
  | .bl b => some (.bool b)
  | .int i => some (.int i)
  | .str x => some (.str x)
  | .tup xs => match toPys xs with
    | some ps => some (.tuple ps)
    | none => none
  | .lst xs => match toPys xs with
    | some ps => some (.list ps)
    | none => none
  | .scr ns => none
  | .ins _ _ => none
def toPys : List D → Option (List PyData)
  | [] => some []
  | d :: ds => match toPy d, toPys ds with
    | some p, some ps => some (p :: ps)
    | _, _ => none
end
mutual
theorem toPy_ok {F H : Hp} (sm : Same F H) : ∀ {v : V} {d : D} {p : PyData}, Rep K cl F v d → toPy d = some p → Dp K H v p
  | _, _, _, .non, h => by cases h; exact .non
  | _, _, _, .bl b, h => by cases h; exact .bl b
  | _, _, _, .int i, h => by cases h; exact .int i
  | _, _, _, .str x, h => by cases h; exact .str x
  | _, _, _, .tup h1 h2, h => by
    unfold toPy at h
    split at h
    · rename_i ps e
      cases h
      exact .tup (Same.sqT sm h1) (toPys_ok sm h2 e)
    · cases h
  | _, _, _, .lst h1 h2, h => by
    unfold toPy at h
    split at h
    · rename_i ps e
      cases h
      exact .lst (SqL.of (sm _ _ h1)) (toPys_ok sm h2 e)
    · cases h
  | _, _, _, .scr h1, h => by cases h
  | _, _, _, .ins h1 h2 h3, h => by cases h
theorem toPys_ok {F H : Hp} (sm : Same F H) : ∀ {vs : List V} {ds : List D} {ps : List PyData}, Reps K cl F vs ds → toPys ds = some ps → DpAll K H vs ps
  | _, _, _, .nil, h => by cases h; exact .nil
  | _, _, _, .cons r q, h => by
    unfold toPys at h
    split at h
    · rename_i p ps e1 e2
      cases h
      exact .cons (toPy_ok sm r e1) (toPys_ok sm q e2)
    · cases h
end
/-- a result as data -/
def rPy : R → Mu → Option PyData
  | .dat d, _ => toPy d
  | .fr xs, _ => match toPys xs with
    | some ps => some (.list ps)
    | none => none
  | .cel k, μ => match μ[k]? with
    | some xs => match toPys xs with
      | some ps => some (.list ps)
      | none => none
    | none => none
  | _, _ => none
theorem rPy_ok {F H H0 : Hp} {α : List Addr} {μ : Mu} {x : V} {r : R} {p : PyData} (C : Conc K cl F α μ H) (h : RepR K cl H0 F α H x r) (q : rPy r μ = some p) : Dp K H x p := by
  cases r with
  | no => cases q
  | dat d => exact toPy_ok C.sub h q
  | cel k =>
    obtain ⟨a, h1, rfl⟩ := h
    dsimp only [rPy] at q
    split at q
    · rename_i xs e
      split at q
      · rename_i ps e2
        cases q
        obtain ⟨vs, h2, h3⟩ := cell_at C h1 e
        exact .lst (SqL.of h2) (toPys_ok C.sub h3 e2)
      · cases q
    · cases q
  | fr zs =>
    obtain ⟨a, vs, rfl, _, _, _, h5, h6⟩ := h
    dsimp only [rPy] at q
    split at q
    · rename_i ps e2
      cases q
      exact .lst (SqL.of h5) (toPys_ok C.sub h6 e2)
    · cases q
@[simp] def fEq (neg : Bool) : R → R → Mu → Option R
  | .dat (.int i), .dat (.int j), _ => some (.dat (.bl (xor neg (decide (i = j)))))
  | .dat (.str i), .dat (.str j), _ => some (.dat (.bl (xor neg (decide (i = j)))))
  | .dat (.bl i), .dat (.bl j), _ => some (.dat (.bl (xor neg (decide (i = j)))))
  | x, y, μ => match rPy x μ, rPy y μ with
    | some p, some q => if SeqAt.shaped p && SeqAt.shaped q then some (.dat (.bl (xor neg (PyData.eqv p q)))) else none
    | _, _ => none
def rEqAll (K : PySem.W.Frag) : R2 := fun x y H Q => rEq x y H Q ∨ rEqD K x y H Q
def rNeAll (K : PySem.W.Frag) : R2 := fun x y H Q => rNe x y H Q ∨ rNeD K x y H Q
theorem op_eqAll (hu : X.A.units + 64 < cLine) : OpR X (compareOp .Eq) (rEqAll X.K) := OpR.or op_eq (op_eqD hu)
theorem op_neAll (hu : X.A.units + 64 < cLine) : OpR X (compareOp .NotEq) (rNeAll X.K) := OpR.or op_ne (op_neD hu)
theorem dec_inj {α β : Type} [DecidableEq α] [DecidableEq β] (g : α → β) (hg : ∀ i j, g i = g j → i = j) (i j : α) : decide (g i = g j) = decide (i = j) := by
  by_cases h : i = j
  · subst h
    simp
  · rw [decide_eq_false h, decide_eq_false fun z => h (hg _ _ z)]
theorem sem_eq : OpSem K cl (rEqAll K) (fEq false) := by
  intro F α μ H H0 x y rx ry z Q C h1 h2 hz k
  unfold fEq at hz
  split at hz
  · rename_i i j
    cases hz
    rw [rep_int h1, rep_int h2]
    refine .inl ⟨rfl, ?_⟩
    rw [dec_inj V.int (fun _ _ h => V.int.inj h)]
    exact k _ F H Evo.refl C (by rw [Bool.false_xor]; exact .bl _)
  · rename_i i j
    cases hz
    rw [rep_str h1, rep_str h2]
    refine .inl ⟨rfl, ?_⟩
    rw [dec_inj V.str (fun _ _ h => V.str.inj h)]
    exact k _ F H Evo.refl C (by rw [Bool.false_xor]; exact .bl _)
  · rename_i i j
    cases hz
    rw [rep_bl h1, rep_bl h2]
    refine .inl ⟨rfl, ?_⟩
    rw [dec_inj V.bl (fun _ _ h => V.bl.inj h)]
    exact k _ F H Evo.refl C (by rw [Bool.false_xor]; exact .bl _)
  · split at hz
    · rename_i p q e1 e2
      split at hz
      · rename_i hs
        cases hz
        rw [Bool.and_eq_true] at hs
        exact .inr ⟨p, q, rPy_ok C h1 e1, rPy_ok C h2 e2, hs.1, hs.2, k _ F H Evo.refl C (by rw [Bool.false_xor]; exact .bl _)⟩
      · cases hz
    · cases hz
theorem sem_ne : OpSem K cl (rNeAll K) (fEq true) := by
  intro F α μ H H0 x y rx ry z Q C h1 h2 hz k
  unfold fEq at hz
  split at hz
  · rename_i i j
    cases hz
    rw [rep_int h1, rep_int h2]
    refine .inl ⟨rfl, ?_⟩
    rw [dec_inj V.int (fun _ _ h => V.int.inj h)]
    exact k _ F H Evo.refl C (by rw [Bool.true_xor]; exact .bl _)
  · rename_i i j
    cases hz
    rw [rep_str h1, rep_str h2]
    refine .inl ⟨rfl, ?_⟩
    rw [dec_inj V.str (fun _ _ h => V.str.inj h)]
    exact k _ F H Evo.refl C (by rw [Bool.true_xor]; exact .bl _)
  · rename_i i j
    cases hz
    rw [rep_bl h1, rep_bl h2]
    refine .inl ⟨rfl, ?_⟩
    rw [dec_inj V.bl (fun _ _ h => V.bl.inj h)]
    exact k _ F H Evo.refl C (by rw [Bool.true_xor]; exact .bl _)
  · split at hz
    · rename_i p q e1 e2
      split at hz
      · rename_i hs
        cases hz
        rw [Bool.and_eq_true] at hs
        exact .inr ⟨p, q, rPy_ok C h1 e1, rPy_ok C h2 e2, hs.1, hs.2, k _ F H Evo.refl C (by rw [Bool.true_xor]; exact .bl _)⟩
      · cases hz
    · cases hz
theorem se_eq (hu : X.A.units + 64 < cLine) (ha : SE X cl a ma) (hb : SE X cl b mb) : SE X cl (.Compare a [.Eq] [b] pos) (mOp (fEq false) ma mb) := se_cmp (op_eqAll hu) sem_eq ha hb (nomark _)
theorem st_eq (hu : X.A.units + 64 < cLine) (ha : SE X cl a ma) (hb : SE X cl b mb) : ST X cl (.Compare a [.Eq] [b] pos) (mB (mOp (fEq false) ma mb)) := st_cmp (op_eqAll hu) sem_eq ha hb (nomark _)
theorem se_ne (hu : X.A.units + 64 < cLine) (ha : SE X cl a ma) (hb : SE X cl b mb) : SE X cl (.Compare a [.NotEq] [b] pos) (mOp (fEq true) ma mb) := se_cmp (op_neAll hu) sem_ne ha hb (nomark _)
theorem st_ne (hu : X.A.units + 64 < cLine) (ha : SE X cl a ma) (hb : SE X cl b mb) : ST X cl (.Compare a [.NotEq] [b] pos) (mB (mOp (fEq true) ma mb)) := st_cmp (op_neAll hu) sem_ne ha hb (nomark _)
/-! is None -/
@[simp] def fIsN (neg : Bool) : R → R → Mu → Option R
  | .dat .non, .dat .non, _ => some (.dat (.bl (!neg)))
  | .no, _, _ => none
  | _, .dat .non, _ => some (.dat (.bl neg))
  | _, _, _ => none
theorem isN_of {F H H0 : Hp} {α : List Addr} {v : V} {r : R} (h : RepR K cl H0 F α H v r) (hr : r ≠ .dat .non) : decide (v = .non) = false := by
  refine decide_eq_false fun z => ?_
  subst z
  cases r with
  | no => exact h
  | dat d =>
    cases h
    exact hr rfl
  | cel k =>
    obtain ⟨_, _, h⟩ := h
    cases h
  | fr xs =>
    obtain ⟨_, _, h, _⟩ := h
    cases h
theorem rep_non {F : Hp} {v : V} (h : Rep K cl F v .non) : v = .non := by
  cases h
  rfl
theorem sem_isN : OpSem K cl (fun x y H Q => y = .non ∧ Q (.bl (decide (x = .non))) H) (fIsN false) := by
  intro F α μ H H0 x y rx ry z Q C h1 h2 hz k
  unfold fIsN at hz
  split at hz
  · cases hz
    refine ⟨rep_non h2, ?_⟩
    rw [rep_non h1]
    exact k _ F H Evo.refl C (.bl _)
  · cases hz
  · rename_i h3 h4
    cases hz
    refine ⟨rep_non h2, ?_⟩
    rw [isN_of h1 (fun z => h3 z)]
    exact k _ F H Evo.refl C (.bl _)
  · cases hz
theorem sem_notN : OpSem K cl (fun x y H Q => y = .non ∧ Q (.bl (!decide (x = .non))) H) (fIsN true) := by
  intro F α μ H H0 x y rx ry z Q C h1 h2 hz k
  unfold fIsN at hz
  split at hz
  · cases hz
    refine ⟨rep_non h2, ?_⟩
    rw [rep_non h1]
    exact k _ F H Evo.refl C (.bl _)
  · cases hz
  · rename_i h3 h4
    cases hz
    refine ⟨rep_non h2, ?_⟩
    rw [isN_of h1 (fun z => h3 z)]
    exact k _ F H Evo.refl C (.bl _)
  · cases hz
theorem se_isN (ha : SE X cl a ma) (hb : SE X cl b mb) : SE X cl (.Compare a [.Is] [b] pos) (mOp (fIsN false) ma mb) := se_cmp op_isN sem_isN ha hb (nomark _)
theorem st_isN (ha : SE X cl a ma) (hb : SE X cl b mb) : ST X cl (.Compare a [.Is] [b] pos) (mB (mOp (fIsN false) ma mb)) := st_cmp op_isN sem_isN ha hb (nomark _)
theorem se_notN (ha : SE X cl a ma) (hb : SE X cl b mb) : SE X cl (.Compare a [.IsNot] [b] pos) (mOp (fIsN true) ma mb) := se_cmp op_notN sem_notN ha hb (nomark _)
theorem st_notN (ha : SE X cl a ma) (hb : SE X cl b mb) : ST X cl (.Compare a [.IsNot] [b] pos) (mB (mOp (fIsN true) ma mb)) := st_cmp op_notN sem_notN ha hb (nomark _)
end
end DL
set_option Elab.async false
set_option linter.all false
set_option maxRecDepth 100000
set_option maxHeartbeats 1000000
namespace DL
open PySem L2
section
variable {X : Cx} {cl : Nat → Addr} {e a b c : Expr} {es : List Expr} {m ma mb mc : ME} {pos p : Pos} {K : PySem.W.Frag}
/-! ### subscripts -/
@[simp] def fIx : R → R → Mu → Option R
  | x, .dat (.int i), μ => match sqOf x μ with
    | some q => match atI q.all i with
      | some d => some (.dat d)
      | none => none
    | none => none
  | _, _, _ => none
theorem atI_reps {F : Hp} {vs : List V} {xs : List D} {i : Int} {d : D} (h : Reps K cl F vs xs) (q : atI xs i = some d) : ∃ v, atI vs i = some v ∧ Rep K cl F v d := by
  unfold atI at q ⊢
  rw [h.length]
  cases e : ixN xs.length i with
  | none =>
    rw [e] at q
    cases q
  | some j =>
    rw [e] at q
    obtain ⟨v, h1, h2⟩ := h.get (i := j) q
    exact ⟨v, h1, h2⟩
theorem sem_ix : OpSem K cl (rIx K) fIx := by
  intro F α μ H H0 x y rx ry z Q C h1 h2 hz k
  unfold fIx at hz
  split at hz
  · rename_i i
    split at hz
    · rename_i q e1
      split at hz
      · rename_i d e2
        cases hz
        obtain ⟨ad, vs, rfl, q1, q2⟩ := sqOf_ok C h1 e1
        obtain ⟨v, e3, q3⟩ := atI_reps q1 e2
        cases q with
        | l xs => exact .inl ⟨ad, vs, i, v, rfl, rep_int h2, q2, e3, k _ F H Evo.refl C q3⟩
        | t xs => exact .inr (.inl ⟨ad, vs, i, v, rfl, rep_int h2, q2, e3, k _ F H Evo.refl C q3⟩)
      · cases hz
    · cases hz
  · cases hz
theorem se_ix (ha : SE X cl a ma) (hb : SE X cl b mb) (hs : PlainIx b := by exact fun _ _ => rfl) : SE X cl (.Subscript a b pos) (mOp fIx ma mb) := PE.weak (pe_ix ix_seq ha hb hs) (op_imp sem_ix)
/-! ### slices -/
abbrev MO := Sl → Mu → Option (Option Int × Mu)
def tmo (K : PySem.W.Frag) (cl : Nat → Addr) (m : MO) : TO := fun σ H Q => ∃ F α δ μ o μ', Conc K cl F α μ H ∧ EnvOk K cl F α σ δ ∧ m δ μ = some (o, μ') ∧
  ∀ F' H', Evo F α H F' α H' → Conc K cl F' α μ' H' → Q o H'
abbrev SO (X : Cx) (cl : Nat → Addr) (e : Option Expr) (m : MO) : Prop := PO X e (tmo X.K cl m)
@[simp] def mNo : MO := fun _ μ => some (none, μ)
@[simp] def mSo (m : ME) : MO := fun δ μ => match m δ μ with
  | some (.dat (.int i), μ') => some (some i, μ')
  | _ => none
theorem so_none : SO X cl none mNo := by
  refine ⟨fun pins s σ H Q I h => po_none.run pins s σ H Q I ?_⟩
  obtain ⟨F, α, δ, μ, o, μ', C, Ee, hm, k⟩ := h
  cases hm
  exact k F H Evo.refl C
theorem so_some (h : SE X cl e m) : SO X cl (some e) (mSo m) := by
  refine ⟨fun pins s σ H Q I hw => (po_some h).run pins s σ H Q I ?_⟩
  obtain ⟨F, α, δ, μ, o, μ', C, Ee, hm, k⟩ := hw
  unfold mSo at hm
  split at hm
  · rename_i i μ1 h0
    cases hm
    exact ⟨F, α, δ, μ, _, μ', C, Ee, h0, fun v F1 H1 e1 c1 r1 => ⟨i, rep_int r1, k F1 H1 e1 c1⟩⟩
  · cases hm
def cutD (xs : List D) (lo hi : Option Int) : List D := (xs.drop (HT.sIx xs.length 0 lo)).take (HT.sIx xs.length xs.length hi - HT.sIx xs.length 0 lo)
theorem cut_reps {F : Hp} {vs : List V} {xs : List D} (h : Reps K cl F vs xs) (lo hi : Option Int) : Reps K cl F (cutV vs lo hi) (cutD xs lo hi) := by
  unfold cutV cutD
  rw [h.length]
  exact (h.drop _).take _
@[simp] def mSl (m : ME) (ml mh : MO) : ME := fun δ μ => match m δ μ with
  | none => none
  | some (x, μ1) => match ml δ μ1 with
    | none => none
    | some (lo, μ2) => match mh δ μ2 with
      | none => none
      | some (hi, μ3) => match sqOf x μ3 with
        | some (.l xs) => some (.fr (cutD xs lo hi), μ3)
        | some (.t xs) => some (.dat (.tup (cutD xs lo hi)), μ3)
        | none => none
theorem se_slice {lo hi : Option Expr} {ml mh : MO} {p2 : Pos} (h : SE X cl e m) (hl : SO X cl lo ml) (hh : SO X cl hi mh) : SE X cl (.Subscript e (.Slice lo hi none p2) pos) (mSl m ml mh) := by
  refine PE.weak (pe_slice (SlR.or sl_list sl_tupA) h hl hh) fun σ H Q ⟨F, α, δ, μ, z, μ', C, Ee, hm, k⟩ => ?_
  unfold mSl at hm
  split at hm
  · cases hm
  rename_i x1 μ1 h1
  split at hm
  · cases hm
  rename_i lo' μ2 h2
  split at hm
  · cases hm
  rename_i hi' μ3 h3
  refine ⟨F, α, δ, μ, x1, μ1, C, Ee, h1, fun v F1 H1 e1 c1 r1 => ⟨F1, α, δ, μ1, lo', μ2, c1, Ee.step e1, h2, fun F2 H2 e2 c2 => ⟨F2, α, δ, μ2, hi', μ3, c2, (Ee.step e1).step e2, h3, fun F3 H3 e3 c3 => ?_⟩⟩⟩
  have r3 := r1.step (e2.trans e3)
  split at hm
  · rename_i xs e4
    cases hm
    obtain ⟨ad, vs, rfl, q1, q2⟩ := sqOf_ok c3 r3 e4
    refine .inl ⟨ad, vs, rfl, q2, fun l hl' => ?_⟩
    obtain ⟨e5, c5, r5⟩ := c3.newL hl' (cut_reps q1 lo' hi')
    exact k _ _ _ (e1.trans (e2.trans (e3.trans e5))) c5 (r5.back fun p hp => e1.dom p (e2.dom p (e3.dom p hp)))
  · rename_i xs e4
    cases hm
    obtain ⟨ad, vs, rfl, q1, q2⟩ := sqOf_ok c3 r3 e4
    have q2' : SqT X.K H3 ad vs := q2
    have cr := cut_reps q1 lo' hi'
    refine .inr ⟨ad, vs, rfl, q2', fun hz => ?_, fun _ l hl' => ?_⟩
    · have e6 : cutD xs lo' hi' = xs := by
        unfold cutD
        have l1 : vs.length = xs.length := q1.length
        rw [l1] at hz
        rw [hz.1, hz.2, List.drop_zero, Nat.sub_zero, List.take_length]
      rw [e6] at k
      refine k _ F3 H3 (e1.trans (e2.trans e3)) c3 ?_
      -- the tuple itself: its place is known already by the value
      cases x1 with
      | no => exact absurd e4 (by simp [sqOf, lstOf])
      | cel j =>
        simp only [sqOf] at e4
        cases e7 : lstOf (.cel j) μ' with
        | none =>
          rw [e7] at e4
          cases e4
        | some w =>
          rw [e7] at e4
          cases e4
      | fr ys => exact absurd e4 (by simp [sqOf, lstOf])
      | dat d =>
        cases d with
        | tup ys =>
          have e8 : ys = xs := by
            simp only [sqOf] at e4
            cases e4
            rfl
          rw [← e8]
          exact r3
        | lst ys => exact absurd e4 (by simp [sqOf, lstOf])
        | scr ys => exact absurd e4 (by simp [sqOf])
        | non => exact absurd e4 (by simp [sqOf, lstOf])
        | bl _ => exact absurd e4 (by simp [sqOf, lstOf])
        | int _ => exact absurd e4 (by simp [sqOf, lstOf])
        | str _ => exact absurd e4 (by simp [sqOf, lstOf])
        | ins _ _ => exact absurd e4 (by simp [sqOf, lstOf])
    · obtain ⟨e5, c5⟩ := c3.new (o := .tup _) hl'
      exact k _ _ _ (e1.trans (e2.trans (e3.trans e5))) c5 (.tup (SqT.of upd_same) (cr.mono e5.ff))
  · cases hm
/-! ### builtins -/
def CbSem (K : PySem.W.Frag) (cl : Nat → Addr) (r : List V → Hp → VK → Prop) (f : List R → Mu → Option R) : Prop := ∀ (F : Hp) (α : List Addr) (μ : Mu) (H : Hp) (vs : List V) (rs : List R) (z : R) (Q : VK), Conc K cl F α μ H → ArgRs K cl F α vs rs → f rs μ = some z →
  (∀ v F' H', Evo F α H F' α H' → Conc K cl F' α μ H' → RepR K cl H F' α H' v z → Q v H') → r vs H Q
@[simp] def mCb (f : List R → Mu → Option R) (ms : MA) : ME := fun δ μ => match ms δ μ with
  | none => none
  | some (rs, μ1) => match f rs μ1 with
    | none => none
    | some z => some (z, μ1)
theorem se_cb {r : List V → Hp → VK → Prop} {f : List R → Mu → Option R} {ms : MA} (h : PE X e (tCB r (tma X.K cl ms))) (hf : CbSem X.K cl r f) : SE X cl e (mCb f ms) := by
  refine PE.weak h fun σ H Q ⟨F, α, δ, μ, z, μ', C, Ee, hm, k⟩ => ?_
  unfold mCb at hm
  split at hm
  · cases hm
  rename_i rs μ1 h1
  split at hm
  · cases hm
  rename_i z1 h2
  cases hm
  refine ⟨F, α, δ, μ, rs, μ', C, Ee, h1, fun vs F1 H1 e1 c1 q1 => ?_⟩
  exact hf F1 α μ' H1 vs rs z Q c1 q1 h2 fun v F2 H2 e2 c2 r2 => k v F2 H2 (e1.trans e2) c2 (r2.back e1.dom)
theorem args1 {F : Hp} {α : List Addr} {vs : List V} {r : R} (h : ArgRs K cl F α vs [r]) : ∃ v, vs = [v] ∧ ArgR K cl F α v r := by
  cases h with
  | cons h1 h2 =>
    cases h2
    exact ⟨_, rfl, h1⟩
theorem args2 {F : Hp} {α : List Addr} {vs : List V} {r s : R} (h : ArgRs K cl F α vs [r, s]) : ∃ v w, vs = [v, w] ∧ ArgR K cl F α v r ∧ ArgR K cl F α w s := by
  cases h with
  | cons h1 h2 =>
    obtain ⟨w, rfl, h3⟩ := args1 h2
    exact ⟨_, w, rfl, h1, h3⟩
theorem argR_rep {F H H0 : Hp} {α : List Addr} {v : V} {r : R} (h : ArgR K cl F α v r) : RepR K cl H0 F α H v r := by
  cases r with
  | no => exact h
  | dat d => exact h
  | cel k => exact h
  | fr xs => exact h.elim
@[simp] def fAbs : List R → Mu → Option R
  | [.dat (.int i)], _ => some (.dat (.int (if i < 0 then -i else i)))
  | _, _ => none
theorem sem_abs : CbSem K cl (fun xs H Q => ∃ i, xs = [.int i] ∧ Q (.int (if i < 0 then -i else i)) H) fAbs := by
  intro F α μ H vs rs z Q C h hz k
  unfold fAbs at hz
  split at hz
  · rename_i i
    cases hz
    obtain ⟨v, rfl, h1⟩ := args1 h
    exact ⟨i, by rw [rep_int h1], k _ F H Evo.refl C (.int _)⟩
  · cases hz
@[simp] def fMin : List R → Mu → Option R
  | [.dat (.int i), .dat (.int j)], _ => some (.dat (.int (if j < i then j else i)))
  | _, _ => none
@[simp] def fMax : List R → Mu → Option R
  | [.dat (.int i), .dat (.int j)], _ => some (.dat (.int (if j > i then j else i)))
  | _, _ => none
theorem sem_min : CbSem K cl (fun xs H Q => ∃ i j, xs = [.int i, .int j] ∧ Q (.int (if j < i then j else i)) H) fMin := by
  intro F α μ H vs rs z Q C h hz k
  unfold fMin at hz
  split at hz
  · rename_i i j
    cases hz
    obtain ⟨v, w, rfl, h1, h2⟩ := args2 h
    exact ⟨i, j, by rw [rep_int h1, rep_int h2], k _ F H Evo.refl C (.int _)⟩
  · cases hz
theorem sem_max : CbSem K cl (fun xs H Q => ∃ i j, xs = [.int i, .int j] ∧ Q (.int (if j > i then j else i)) H) fMax := by
  intro F α μ H vs rs z Q C h hz k
  unfold fMax at hz
  split at hz
  · rename_i i j
    cases hz
    obtain ⟨v, w, rfl, h1, h2⟩ := args2 h
    exact ⟨i, j, by rw [rep_int h1, rep_int h2], k _ F H Evo.refl C (.int _)⟩
  · cases hz
@[simp] def fInt : List R → Mu → Option R
  | [.dat (.int i)], _ => some (.dat (.int i))
  | [.dat (.bl k)], _ => some (.dat (.int (if k then 1 else 0)))
  | _, _ => none
theorem sem_int : CbSem K cl (fun xs H Q => (∃ i, xs = [.int i] ∧ Q (.int i) H) ∨ ∃ k, xs = [.bl k] ∧ Q (.int (if k then 1 else 0)) H) fInt := by
  intro F α μ H vs rs z Q C h hz k
  unfold fInt at hz
  split at hz
  · rename_i i
    cases hz
    obtain ⟨v, rfl, h1⟩ := args1 h
    exact .inl ⟨i, by rw [rep_int h1], k _ F H Evo.refl C (.int _)⟩
  · rename_i i
    cases hz
    obtain ⟨v, rfl, h1⟩ := args1 h
    exact .inr ⟨i, by rw [rep_bl h1], k _ F H Evo.refl C (.int _)⟩
  · cases hz
@[simp] def fLen : List R → Mu → Option R
  | [r], μ => match sqOf r μ with
    | some q => some (.dat (.int q.all.length))
    | none => none
  | _, _ => none
theorem sem_len : CbSem K cl (fun xs H Q => ∃ p ys, xs = [.ref p] ∧ (SqL K H p ys ∨ SqT K H p ys) ∧ Q (.int ys.length) H) fLen := by
  intro F α μ H vs rs z Q C h hz k
  unfold fLen at hz
  split at hz
  · rename_i r
    split at hz
    · rename_i q e1
      cases hz
      obtain ⟨v, rfl, h1⟩ := args1 h
      obtain ⟨ad, ws, rfl, q1, q2⟩ := sqOf_ok (H0 := H) C (argR_rep h1) e1
      refine ⟨ad, ws, rfl, ?_, ?_⟩
      · cases q with
        | l xs => exact .inl q2
        | t xs => exact .inr q2
      · rw [q1.length]
        exact k _ F H Evo.refl C (.int _)
    · cases hz
  · cases hz
@[simp] def fList : List R → Mu → Option R
  | [r], μ => match sqOf r μ with
    | some q => some (.fr q.all)
    | none => none
  | _, _ => none
theorem sem_list : CbSem K cl (fun xs H Q => ∃ p ys, xs = [.ref p] ∧ (SqL K H p ys ∨ SqT K H p ys) ∧ ∀ l, H l = none → Q (.ref l) (upd H l (.lst ys))) fList := by
  intro F α μ H vs rs z Q C h hz k
  unfold fList at hz
  split at hz
  · rename_i r
    split at hz
    · rename_i q e1
      cases hz
      obtain ⟨v, rfl, h1⟩ := args1 h
      obtain ⟨ad, ws, rfl, q1, q2⟩ := sqOf_ok (H0 := H) C (argR_rep h1) e1
      refine ⟨ad, ws, rfl, ?_, fun l hl => ?_⟩
      · cases q with
        | l xs => exact .inl q2
        | t xs => exact .inr q2
      · obtain ⟨e5, c5, r5⟩ := C.newL hl q1
        exact k _ _ _ e5 c5 r5
    · cases hz
  · cases hz
@[simp] def fTuple : List R → Mu → Option R
  | [.dat (.tup xs)], _ => some (.dat (.tup xs))
  | [r], μ => match sqOf r μ with
    | some (.l xs) => some (.dat (.tup xs))
    | _ => none
  | _, _ => none
theorem sem_tuple : CbSem K cl (fun xs H Q => ∃ p ys, xs = [.ref p] ∧ ((SqL K H p ys ∧ ∀ l, H l = none → Q (.ref l) (upd H l (.tup ys))) ∨ (SqT K H p ys ∧ Q (.ref p) H))) fTuple := by
  intro F α μ H vs rs z Q C h hz k
  unfold fTuple at hz
  split at hz
  · rename_i xs
    cases hz
    obtain ⟨v, rfl, h1⟩ := args1 h
    cases h1 with
    | tup q1 q2 => exact ⟨_, _, rfl, .inr ⟨Same.sqT C.sub q1, k _ F H Evo.refl C (.tup q1 q2)⟩⟩
  · rename_i r _
    split at hz
    · rename_i xs e1
      cases hz
      obtain ⟨v, rfl, h1⟩ := args1 h
      obtain ⟨ad, ws, rfl, q1, q2⟩ := sqOf_ok (H0 := H) C (argR_rep h1) e1
      refine ⟨ad, ws, rfl, .inl ⟨q2, fun l hl => ?_⟩⟩
      obtain ⟨e5, c5⟩ := C.new (o := .tup ws) hl
      exact k _ _ _ e5 c5 (.tup (SqT.of upd_same) (q1.mono e5.ff))
    · cases hz
  · cases hz
def blsOf : List D → Option (List Bool)
  | [] => some []
  | .bl i :: r => match blsOf r with
    | some is => some (i :: is)
    | none => none
  | _ => none
theorem blsOf_map : ∀ {xs : List D} {bs : List Bool}, blsOf xs = some bs → xs = bs.map D.bl
  | [], _, h => by
    cases h
    rfl
  | .bl i :: r, ns, h => by
    unfold blsOf at h
    split at h
    · rename_i is h'
      cases h
      rw [blsOf_map h']
      rfl
    · cases h
  | .non :: _, _, h => by cases h
  | .int _ :: _, _, h => by cases h
  | .str _ :: _, _, h => by cases h
  | .tup _ :: _, _, h => by cases h
  | .lst _ :: _, _, h => by cases h
  | .scr _ :: _, _, h => by cases h
  | .ins _ _ :: _, _, h => by cases h
theorem Reps.of_bls {F : Hp} : ∀ {bs : List Bool} {vs : List V}, Reps K cl F vs (bs.map D.bl) → vs = bs.map V.bl
  | [], _, h => by
    cases h
    rfl
  | n :: ns, _, h => by
    cases h with
    | cons r q =>
      cases r
      rw [Reps.of_bls q]
      rfl
theorem blsOf_ok {F : Hp} {xs : List D} {bs : List Bool} {vs : List V} (h : blsOf xs = some bs) (q : Reps K cl F vs xs) : vs = bs.map V.bl := by
  rw [blsOf_map h] at q
  exact q.of_bls
@[simp] def fAll : List R → Mu → Option R
  | [r], μ => match lstOf r μ with
    | some xs => match blsOf xs with
      | some bs => some (.dat (.bl (bs.all id)))
      | none => none
    | none => none
  | _, _ => none
@[simp] def fAny : List R → Mu → Option R
  | [r], μ => match lstOf r μ with
    | some xs => match blsOf xs with
      | some bs => some (.dat (.bl (bs.any id)))
      | none => none
    | none => none
  | _, _ => none
theorem sem_all : CbSem K cl (rAll K) fAll := by
  intro F α μ H vs rs z Q C h hz k
  unfold fAll at hz
  split at hz
  · rename_i r
    split at hz
    · rename_i xs e1
      split at hz
      · rename_i bs e2
        cases hz
        obtain ⟨v, rfl, h1⟩ := args1 h
        obtain ⟨ad, ws, rfl, q1, q2⟩ := lstOf_ok (H0 := H) C (argR_rep h1) e1
        rw [blsOf_ok e2 q2] at q1
        exact ⟨ad, bs, rfl, SqL.of q1, k _ F H Evo.refl C (.bl _)⟩
      · cases hz
    · cases hz
  · cases hz
theorem sem_any : CbSem K cl (rAny K) fAny := by
  intro F α μ H vs rs z Q C h hz k
  unfold fAny at hz
  split at hz
  · rename_i r
    split at hz
    · rename_i xs e1
      split at hz
      · rename_i bs e2
        cases hz
        obtain ⟨v, rfl, h1⟩ := args1 h
        obtain ⟨ad, ws, rfl, q1, q2⟩ := lstOf_ok (H0 := H) C (argR_rep h1) e1
        rw [blsOf_ok e2 q2] at q1
        exact ⟨ad, bs, rfl, SqL.of q1, k _ F H Evo.refl C (.bl _)⟩
      · cases hz
    · cases hz
  · cases hz
variable {ms : MA}
theorem se_abs (hm : X.mg "abs" = none) (ha : SA X cl [a] ms) (hg : Gl X "abs" := by rfl) (he : starEach (a :: []) X.env = (false, eval a X.env) :: starEach [] X.env := by rfl) : SE X cl (.Call (.Name "abs" p) [a] [] pos) (mCb fAbs ms) := se_cb (pe_callB call_abs hg hm (by decide +kernel) ha (he := he)) sem_abs
theorem se_int1 (hm : X.mg "int" = none) (ha : SA X cl [a] ms) (hg : Gl X "int" := by rfl) (he : starEach (a :: []) X.env = (false, eval a X.env) :: starEach [] X.env := by rfl) : SE X cl (.Call (.Name "int" p) [a] [] pos) (mCb fInt ms) := se_cb (pe_callTy call_int1 hg hm (by decide +kernel) ha (he := he)) sem_int
theorem se_len (hm : X.mg "len" = none) (ha : SA X cl [a] ms) (hg : Gl X "len" := by rfl) (he : starEach (a :: []) X.env = (false, eval a X.env) :: starEach [] X.env := by rfl) : SE X cl (.Call (.Name "len" p) [a] [] pos) (mCb fLen ms) := se_cb (pe_callB call_len_seq hg hm (by decide +kernel) ha (he := he)) sem_len
theorem se_list (hm : X.mg "list" = none) (ha : SA X cl [a] ms) (hg : Gl X "list" := by rfl) (he : starEach (a :: []) X.env = (false, eval a X.env) :: starEach [] X.env := by rfl) : SE X cl (.Call (.Name "list" p) [a] [] pos) (mCb fList ms) := se_cb (pe_callTy call_list_of hg hm (by decide +kernel) ha (he := he)) sem_list
theorem se_tuple (hm : X.mg "tuple" = none) (ha : SA X cl [a] ms) (hg : Gl X "tuple" := by rfl) (he : starEach (a :: []) X.env = (false, eval a X.env) :: starEach [] X.env := by rfl) : SE X cl (.Call (.Name "tuple" p) [a] [] pos) (mCb fTuple ms) := se_cb (pe_callTy call_tuple_of hg hm (by decide +kernel) ha (he := he)) sem_tuple
theorem se_all (hm : X.mg "all" = none) (ha : SA X cl [a] ms) (hc : X.calm = true := by rfl) (hg : Gl X "all" := by rfl) (he : starEach (a :: []) X.env = (false, eval a X.env) :: starEach [] X.env := by rfl) : SE X cl (.Call (.Name "all" p) [a] [] pos) (mCb fAll ms) := se_cb (pe_callB (cr_all hc) hg hm (by decide +kernel) ha (he := he)) sem_all
theorem se_any (hm : X.mg "any" = none) (ha : SA X cl [a] ms) (hc : X.calm = true := by rfl) (hg : Gl X "any" := by rfl) (he : starEach (a :: []) X.env = (false, eval a X.env) :: starEach [] X.env := by rfl) : SE X cl (.Call (.Name "any" p) [a] [] pos) (mCb fAny ms) := se_cb (pe_callB (cr_any hc) hg hm (by decide +kernel) ha (he := he)) sem_any
theorem se_min (hm : X.mg "min" = none) (ha : SA X cl [a, b] ms) (hc : X.calm = true := by rfl) (hg : Gl X "min" := by rfl) (he : starEach (a :: [b]) X.env = (false, eval a X.env) :: starEach [b] X.env := by rfl) (hpl : (backTo pos (starEach [b] X.env)).any (·.1) = false := by rfl) : SE X cl (.Call (.Name "min" p) [a, b] [] pos) (mCb fMin ms) := se_cb (pe_callB (call_min2 hc) hg hm (by decide +kernel) ha (he := he) (hpl := hpl)) sem_min
theorem se_max (hm : X.mg "max" = none) (ha : SA X cl [a, b] ms) (hc : X.calm = true := by rfl) (hg : Gl X "max" := by rfl) (he : starEach (a :: [b]) X.env = (false, eval a X.env) :: starEach [b] X.env := by rfl) (hpl : (backTo pos (starEach [b] X.env)).any (·.1) = false := by rfl) : SE X cl (.Call (.Name "max" p) [a, b] [] pos) (mCb fMax ms) := se_cb (pe_callB (call_max2 hc) hg hm (by decide +kernel) ha (he := he) (hpl := hpl)) sem_max
end
end DL
set_option Elab.async false
set_option linter.all false
set_option maxRecDepth 100000
set_option maxHeartbeats 1000000
namespace DL
open PySem PySem.Spec PyProof.Rows L2
section
variable {X : Cx} {cl : Nat → Addr} {e a b c : Expr} {es : List Expr} {m ma mb mc : ME} {pos p : Pos} {K : PySem.W.Frag}
/-! ### garbage -/
theorem Conc.garb {F H : Hp} {α : List Addr} {μ : Mu} {p : Addr} {o : HO} (C : Conc K cl F α μ H) (hp : H p = none) : Evo F α H F α (upd H p o) ∧ Conc K cl F α μ (upd H p o) := by
  refine ⟨⟨Same.refl F, ⟨[], by simp⟩, fun a u h _ => ?_, fun a h => ?_, fun a u h q => (by rw [h] at q; cases q), fun a h q => absurd h q⟩, ⟨fun a u h => ?_, C.len, C.nd, fun k a xs h1 h2 => ?_, C.out⟩⟩
  · rw [upd_ne (ne_of_none h hp)]
    exact h
  · by_cases z : a = p
    · rw [z]
      exact hp
    · rw [upd_ne z] at h
      exact h
  · rw [upd_ne (ne_of_none (C.sub a u h) hp)]
    exact C.sub a u h
  · obtain ⟨vs, q1, q2⟩ := C.cell k a xs h1 h2
    exact ⟨vs, by rw [upd_ne (ne_of_none q1 hp)]; exact q1, q2⟩
/-! ### isinstance of built-in classes -/
@[simp] def tag : R → Option String
  | .dat .non => some "NoneType"
  | .dat (.bl _) => some "bool"
  | .dat (.int _) => some "int"
  | .dat (.str _) => some "str"
  | .dat (.tup _) => some "tuple"
  | .dat (.lst _) => some "list"
  | .cel _ => some "list"
  | .fr _ => some "list"
  | _ => none
def isB (a b : String) : Bool := a == b || (a == "bool" && b == "int")
theorem tag_ok {F H H0 : Hp} {α : List Addr} {μ : Mu} {v : V} {r : R} {t : String} (C : Conc K cl F α μ H) (h : RepR K cl H0 F α H v r) (q : tag r = some t) : TyX K H v (.type t) ∧ (t = "NoneType" ∨ t = "bool" ∨ t = "int" ∨ t = "str" ∨ t = "tuple" ∨ t = "list") := by
  cases r with
  | no => cases q
  | cel k =>
    cases q
    obtain ⟨a, h1, rfl⟩ := h
    have hk : k < μ.length := by rw [← C.len]; exact (List.getElem?_eq_some_iff.mp h1).1
    obtain ⟨vs, h2, _⟩ := C.cell k a μ[k] h1 (List.getElem?_eq_getElem hk)
    exact ⟨.base (.lst h2), by simp⟩
  | fr xs =>
    cases q
    obtain ⟨a, vs, rfl, _, _, _, h5, _⟩ := h
    exact ⟨.base (.lst h5), by simp⟩
  | dat d =>
    cases h with
    | non =>
      cases q
      exact ⟨.base .non, by simp⟩
    | bl b =>
      cases q
      exact ⟨.base (.bl b), by simp⟩
    | int b =>
      cases q
      exact ⟨.base (.int b), by simp⟩
    | str b =>
      cases q
      exact ⟨.base (.str b), by simp⟩
    | lst h1 h2 =>
      cases q
      exact ⟨.base (.lst (C.sub _ _ h1)), by simp⟩
    | tup h1 h2 =>
      cases q
      refine ⟨?_, by simp⟩
      rcases Same.sqT C.sub h1 with (h | ⟨o, h⟩) | ⟨o, its, n, h3, h4, _⟩
      · exact .base (.tup h)
      · exact .fTuple h
      · exact .kTuple h3 h4
    | scr h1 => cases q
    | ins h1 h2 h3 => cases q
theorem kit_isB {t T : String} (ht : t = "NoneType" ∨ t = "bool" ∨ t = "int" ∨ t = "str" ∨ t = "tuple" ∨ t = "list") (hT : T = "bool" ∨ T = "int" ∨ T = "str" ∨ T = "tuple" ∨ T = "list") : PySem.W.kitOne K (.type t) (.type T) = some (isB t T) := by
  refine kit_ty ?_
  rcases ht with rfl | rfl | rfl | rfl | rfl | rfl <;> rcases hT with rfl | rfl | rfl | rfl | rfl <;> decide +kernel
@[simp] def mIsi (T : String) (m : ME) : ME := fun δ μ => match m δ μ with
  | none => none
  | some (r, μ1) => match tag r with
    | some t => some (.dat (.bl (isB t T)), μ1)
    | none => none
@[simp] def mIsi2 (T U : String) (m : ME) : ME := fun δ μ => match m δ μ with
  | none => none
  | some (r, μ1) => match tag r with
    | some t => some (.dat (.bl (isB t T || isB t U)), μ1)
    | none => none
abbrev BT (T : String) : Prop := T = "bool" ∨ T = "int" ∨ T = "str" ∨ T = "tuple" ∨ T = "list"
theorem se_isi {T : String} {Ts : Str} {pT : Pos} (hm : X.mg "isinstance" = none) (hmT : X.mg Ts = none) (hT : BT T) (hvT : bootBuiltins Ts = some (.type T)) (he : SE X cl a m) (hg : Gl X "isinstance" := by rfl) (hgT : Gl X Ts := by rfl) (hn : Ts ≠ "__name__" := by decide) (hd : (Ts == ("__debug__" : Str)) = false := by decide)
    (hs : starEach (a :: [.Name Ts pT]) X.env = (false, eval a X.env) :: starEach [.Name Ts pT] X.env := by rfl) (hs2 : starEach (.Name Ts pT :: []) X.env = (false, eval (.Name Ts pT) X.env) :: starEach [] X.env := by rfl) (hpl : (backTo pos (starEach [.Name Ts pT] X.env)).any (·.1) = false := by rfl) :
    SE X cl (.Call (.Name "isinstance" p) [a, .Name Ts pT] [] pos) (mIsi T m) := by
  refine PE.weak (pe_callB call_isi hg hm (by decide +kernel) (pa_cons he (pa_cons (pe_bltn (v := .ty T) hgT hmT hvT rfl hn hd) pa_nil hs2) hs) (he := hs) (hpl := hpl)) fun σ H Q ⟨F, α, δ, μ, z, μ', C, Ee, hm, k⟩ => ?_
  unfold mIsi at hm
  split at hm
  · cases hm
  rename_i r1 μ1 h1
  split at hm
  · rename_i t h2
    cases hm
    refine ⟨F, α, δ, μ, r1, μ', C, Ee, h1, fun v F1 H1 e1 c1 q1 => ?_⟩
    obtain ⟨q2, q3⟩ := tag_ok c1 q1 h2
    exact ⟨v, .ty T, .type t, .type T, _, rfl, .ty T, q2, kit_isB q3 hT, k _ F1 H1 e1 c1 (.bl _)⟩
  · cases hm
theorem se_isi2 {T U : String} {Ts Us : Str} {pT pU pp : Pos} {x1 : Nat} (hm : X.mg "isinstance" = none) (hmT : X.mg Ts = none) (hmU : X.mg Us = none) (hT : BT T) (hU : BT U) (hvT : bootBuiltins Ts = some (.type T)) (hvU : bootBuiltins Us = some (.type U)) (he : SE X cl a m)
    (hg : Gl X "isinstance" := by rfl) (hgT : Gl X Ts := by rfl) (hgU : Gl X Us := by rfl) (hn : Ts ≠ "__name__" := by decide) (hd : (Ts == ("__debug__" : Str)) = false := by decide) (hnU : Us ≠ "__name__" := by decide) (hdU : (Us == ("__debug__" : Str)) = false := by decide)
    (hs : starEach (a :: [.Tuple [.Name Ts pT, .Name Us pU] x1 pp]) X.env = (false, eval a X.env) :: starEach [.Tuple [.Name Ts pT, .Name Us pU] x1 pp] X.env := by rfl)
    (hs2 : starEach (.Tuple [.Name Ts pT, .Name Us pU] x1 pp :: []) X.env = (false, eval (.Tuple [.Name Ts pT, .Name Us pU] x1 pp) X.env) :: starEach [] X.env := by rfl)
    (hs3 : starEach (.Name Ts pT :: [.Name Us pU]) X.env = (false, eval (.Name Ts pT) X.env) :: starEach [.Name Us pU] X.env := by rfl) (hs4 : starEach (.Name Us pU :: []) X.env = (false, eval (.Name Us pU) X.env) :: starEach [] X.env := by rfl)
    (hpl : (backTo pos (starEach [.Tuple [.Name Ts pT, .Name Us pU] x1 pp] X.env)).any (·.1) = false := by rfl) :
    SE X cl (.Call (.Name "isinstance" p) [a, .Tuple [.Name Ts pT, .Name Us pU] x1 pp] [] pos) (mIsi2 T U m) := by
  refine PE.weak (pe_callB call_isiT hg hm (by decide +kernel) (pa_cons he (pa_cons (pe_tup (pa_cons (pe_bltn (v := .ty T) hgT hmT hvT rfl hn hd) (pa_cons (pe_bltn (v := .ty U) hgU hmU hvU rfl hnU hdU) pa_nil hs4) hs3)) pa_nil hs2) hs) (he := hs) (hpl := hpl)) fun σ H Q ⟨F, α, δ, μ, z, μ', C, Ee, hm, k⟩ => ?_
  unfold mIsi2 at hm
  split at hm
  · cases hm
  rename_i r1 μ1 h1
  split at hm
  · rename_i t h2
    cases hm
    refine ⟨F, α, δ, μ, r1, μ', C, Ee, h1, fun v F1 H1 e1 c1 q1 => ?_⟩
    refine ⟨sz_of (show 2 ≤ 100000 by decide), fun tp htp => ?_⟩
    obtain ⟨e2, c2⟩ := c1.garb (o := .tup [.ty T, .ty U]) htp
    obtain ⟨q2, q3⟩ := tag_ok c2 (q1.step e2) h2
    refine ⟨v, tp, [.ty T, .ty U], .type t, [.type T, .type U], isB t T || isB t U, rfl, upd_same, .cons (.ty T) (.cons (.ty U) .nil), q2, ?_, k _ F1 _ (e1.trans e2) c2 (.bl _)⟩
    refine kitAny_cons (kit_isB q3 hT) (fun h => ?_) (fun h => by rw [h]; rfl)
    rw [h]
    exact kitAny_cons (kit_isB q3 hU) (fun h => by rw [h]; rfl) (fun h => by rw [h]; rfl)
  · cases hm
/-! ### list(range(..)) -/
def rgD (a b : Int) : List D := (List.range (b - a).toNat).map fun i => D.int (a + (i : Nat))
theorem rg_reps {F : Hp} (a b : Int) : Reps K cl F (rgV a b) (rgD a b) := by
  unfold rgV rgD
  generalize List.range (b - a).toNat = l
  induction l with
  | nil => exact .nil
  | cons x r ih => exact .cons (.int _) ih
def rgOk (a b : Int) : Bool := decide (-(2 ^ 40) ≤ a ∧ a < 2 ^ 40 ∧ -(2 ^ 40) ≤ b ∧ b < 2 ^ 40 ∧ b - a ≤ 100000)
theorem rgOk_ok {a b : Int} (h : rgOk a b = true) : RgOk a b := by
  unfold rgOk at h
  have := of_decide_eq_true h
  exact ⟨by omega, by omega, by omega, by omega, by omega⟩
@[simp] def mRg1 (m : ME) : ME := fun δ μ => match m δ μ with
  | some (.dat (.int j), μ1) => if rgOk 0 j then some (.fr (rgD 0 j), μ1) else none
  | _ => none
@[simp] def mRg2 (ma mb : ME) : ME := fun δ μ => match ma δ μ with
  | some (.dat (.int i), μ1) => match mb δ μ1 with
    | some (.dat (.int j), μ2) => if rgOk i j then some (.fr (rgD i j), μ2) else none
    | _ => none
  | _ => none
theorem se_rg1 {q q2 : Pos} (hl : X.mg "list" = none) (hr : X.mg "range" = none) (h : SE X cl a m) (hc : X.calm = true := by rfl) (hgl : Gl X "list" := by rfl) (hgr : Gl X "range" := by rfl) (na : starEach [a] X.env = (false, eval a X.env) :: starEach [] X.env := by rfl)
    (nb : starEach [.Call (.Name "range" q) [a] [] q2] X.env = (false, eval (.Call (.Name "range" q) [a] [] q2) X.env) :: starEach [] X.env := by rfl) : SE X cl (.Call (.Name "list" p) [.Call (.Name "range" q) [a] [] q2] [] pos) (mRg1 m) := by
  refine PE.weak (pe_listRg hc hgl hl (prg_1 hgr hr h na) nb) fun σ H Q ⟨F, α, δ, μ, z, μ', C, Ee, hm, k⟩ => ?_
  unfold mRg1 at hm
  split at hm
  · rename_i j μ1 h1
    split at hm
    · rename_i ok
      cases hm
      refine ⟨F, α, δ, μ, _, μ', C, Ee, h1, fun v F1 H1 e1 c1 q1 => ⟨j, rep_int q1, rgOk_ok ok, fun l hl => ?_⟩⟩
      obtain ⟨e5, c5, r5⟩ := c1.newL hl (rg_reps 0 j)
      exact k _ _ _ (e1.trans e5) c5 (r5.back e1.dom)
    · cases hm
  · cases hm
theorem se_rg2 {q q2 : Pos} (hl : X.mg "list" = none) (hr : X.mg "range" = none) (ha : SE X cl a ma) (hb : SE X cl b mb) (hc : X.calm = true := by rfl) (hgl : Gl X "list" := by rfl) (hgr : Gl X "range" := by rfl) (na : starEach [a, b] X.env = (false, eval a X.env) :: starEach [b] X.env := by rfl) (nb' : starEach [b] X.env = (false, eval b X.env) :: starEach [] X.env := by rfl)
    (hp : (backTo q2 (starEach [b] X.env)).any (·.1) = false := by rfl)
    (nb : starEach [.Call (.Name "range" q) [a, b] [] q2] X.env = (false, eval (.Call (.Name "range" q) [a, b] [] q2) X.env) :: starEach [] X.env := by rfl) : SE X cl (.Call (.Name "list" p) [.Call (.Name "range" q) [a, b] [] q2] [] pos) (mRg2 ma mb) := by
  refine PE.weak (pe_listRg hc hgl hl (prg_2 hgr hr ha hb na nb' hp) nb) fun σ H Q ⟨F, α, δ, μ, z, μ', C, Ee, hm, k⟩ => ?_
  unfold mRg2 at hm
  split at hm
  · rename_i i μ1 h1
    split at hm
    · rename_i j μ2 h2
      split at hm
      · rename_i ok
        cases hm
        refine ⟨F, α, δ, μ, _, μ1, C, Ee, h1, fun v F1 H1 e1 c1 q1 => ⟨F1, α, δ, μ1, _, μ', c1, Ee.step e1, h2, fun w F2 H2 e2 c2 q2 => ⟨i, j, rep_int q1, rep_int q2, rgOk_ok ok, fun l hl => ?_⟩⟩⟩
        obtain ⟨e5, c5, r5⟩ := c2.newL hl (rg_reps i j)
        exact k _ _ _ (e1.trans (e2.trans e5)) c5 (r5.back fun p hp => e1.dom p (e2.dom p hp))
      · cases hm
    · cases hm
  · cases hm
end
/-! ### defs -/
abbrev MF := List R → Mu → Option (R × Mu)
@[simp] def retR (n : Nat) (r : R) (μ : Mu) : Option (R × Mu) := match r with
  | .cel k => if k < n then some (.cel k, μ.take n) else match μ[k]? with
    | some xs => some (.fr xs, μ.take n)
    | none => none
  | .no => none
  | .dat d => some (.dat d, μ.take n)
  | .fr xs => some (.fr xs, μ.take n)
@[simp] def mDef (n N : Nat) (body : MS) : MF := fun rs μ => if rs.length = n then
    match body (rs ++ List.replicate (N - n) .no) μ with
    | some (.rt r μ') => retR μ.length r μ'
    | some (.nx _ μ') => some (.dat .non, μ'.take μ.length)
    | _ => none
  else none
def spM (K : PySem.W.Frag) (cl : Nat → Addr) (n : Nat) (m : MF) : Sp := fun vs H Q _ => ∃ F α μ rs r μ', vs.length = n ∧ Conc K cl F α μ H ∧ ArgRs K cl F α vs rs ∧ m rs μ = some (r, μ') ∧
  ∀ v F' H', Evo F α H F' α H' → Conc K cl F' α μ' H' → RepR K cl H F' α H' v r → Q v H'
section
variable {K : PySem.W.Frag} {cl : Nat → Addr}
theorem ArgRs.length {F : Hp} {α : List Addr} : ∀ {vs : List V} {rs : List R}, ArgRs K cl F α vs rs → vs.length = rs.length
  | _, _, .nil => rfl
  | _, _, .cons _ q => congrArg (· + 1) (ArgRs.length q)
theorem ArgRs.get {F : Hp} {α : List Addr} : ∀ {vs : List V} {rs : List R} {i : Nat} {r : R}, ArgRs K cl F α vs rs → rs[i]? = some r → ∃ v, vs[i]? = some v ∧ ArgR K cl F α v r
  | _, _, _, _, .nil, h => by simp at h
  | _, _, 0, _, .cons r _, h => by
    simp at h
    subst h
    exact ⟨_, rfl, r⟩
  | _, _, i + 1, _, .cons _ q, h => by
    obtain ⟨v, e, r⟩ := ArgRs.get (i := i) q (by simpa using h)
    exact ⟨v, by simpa using e, r⟩
theorem env_start {F : Hp} {α : List Addr} {N : List Str} {vs : List V} {rs : List R} (h : ArgRs K cl F α vs rs) : EnvOk K cl F α (L2.start N vs) (rs ++ List.replicate (N.length - rs.length) .no) := by
  have hl := h.length
  have key : ∀ (i : Nat) (r : R), (rs ++ List.replicate (N.length - rs.length) R.no)[i]? = some r → r ≠ .no → rs[i]? = some r ∧ i < vs.length := by
    intro i r q hr
    by_cases hi : i < rs.length
    · rw [List.getElem?_append_left hi] at q
      exact ⟨q, by omega⟩
    · rw [List.getElem?_append_right (by omega), List.getElem?_replicate] at q
      split at q
      · cases q
        exact absurd rfl hr
      · cases q
  have get : ∀ (i : Nat) (v : V), i < vs.length → vs[i]? = some v → (L2.start N vs)[i]? = some (some v) := by
    intro i v hi q
    unfold L2.start
    rw [List.getElem?_append_left (by simpa using hi), List.getElem?_map, q]
    rfl
  refine ⟨?_, fun i d q => ?_, fun i k q => ?_⟩
  · unfold L2.start
    simp only [List.length_append, List.length_map, List.length_replicate]
    omega
  · obtain ⟨q1, q2⟩ := key i _ q (fun z => nomatch z)
    obtain ⟨v, h1, h2⟩ := h.get q1
    exact ⟨v, get i v q2 h1, h2⟩
  · obtain ⟨q1, q2⟩ := key i _ q (fun z => nomatch z)
    obtain ⟨v, h1, a, h2, h3⟩ := h.get q1
    exact ⟨a, h2, by rw [← h3]; exact get i v q2 h1⟩
theorem Conc.cut {F H : Hp} {α α' : List Addr} {μ : Mu} {n : Nat} (C : Conc K cl F α' μ H) (e : ∃ x, α' = α ++ x) (hn : α.length = n) : Conc K cl F α (μ.take n) H := by
  obtain ⟨x, rfl⟩ := e
  refine ⟨C.sub, ?_, (List.nodup_append.mp C.nd).1, fun k a xs h1 h2 => ?_, fun a h => C.out a (List.mem_append_left _ h)⟩
  · have := C.len
    rw [List.length_append] at this
    rw [List.length_take, hn]
    omega
  · have hk := (List.getElem?_eq_some_iff.mp h1).1
    refine C.cell k a xs (by rw [List.getElem?_append_left hk]; exact h1) ?_
    rw [List.getElem?_take_of_lt (by omega)] at h2
    exact h2
theorem Evo.cut {F H F' H' : Hp} {α α' : List Addr} (e : Evo F α H F' α' H') : Evo F α H F' α H' := ⟨e.ff, ⟨[], by simp⟩, e.hh, e.dom, e.fre, fun a h q => absurd h q⟩
theorem def_ok {P : Program} {w : World} {mg : Str → Option Value} {base : Heap} {x qual : Str} {st : Stmt} {f : Addr} {fd : FuncData} {N ps : List Str} {k n : Nat} {body : MS} (F : Fun K x qual st f fd) (S : FnScope N ps (defScope st)) (hn : ps.length = n)
    (hb : ∀ (cdv : Value) (A : Around) (outer : List Env) (s : Shared) (H : Hp) (E : XK), Room k (A.deeper (envOfC qual (defScope st) s.heap.objs.size f cdv)) →
      SSs (cxOf CX0 P w K mg base N qual (defScope st) f cdv A outer s H E).nox cl (defBody st) body) : FnOk P w K mg base CX0 (k + 1) f fd ps (spM K cl n (mDef n N.length body)) := by
  refine F.ok S (fun vs H Q E h => ?_) (fun cdv A outer s H vs Q E hr h => ⟨_, hb cdv A outer s H E hr, ?_⟩)
  · obtain ⟨_, _, _, _, _, _, h, _⟩ := h
    rw [h, hn]
  · obtain ⟨F, α, μ, rs, r, μ', hl, C, ha, hm, k⟩ := h
    unfold mDef at hm
    split at hm
    · rename_i hrs
      have en := env_start (N := N) ha
      rw [hrs] at en
      split at hm
      · rename_i r1 μ1 h1
        refine ⟨F, α, _, μ, _, C, en, h1, fun v F1 α1 H1 e1 c1 q1 => ?_⟩
        have cc := c1.cut e1.ext C.len
        unfold retR at hm
        split at hm
        · rename_i j
          obtain ⟨a, q2, rfl⟩ := q1
          split at hm
          · rename_i hj
            cases hm
            refine k _ F1 H1 e1.cut cc ⟨a, ?_, rfl⟩
            obtain ⟨x, e⟩ := e1.ext
            rw [e, List.getElem?_append_left (by rw [C.len]; exact hj)] at q2
            exact q2
          · rename_i hj
            split at hm
            · rename_i xs e2
              cases hm
              obtain ⟨us, q3, q4⟩ := c1.cell j a xs q2 e2
              have na : a ∉ α := fun z => by
                obtain ⟨x, e⟩ := e1.ext
                have nd := c1.nd
                rw [e] at nd q2
                rw [List.getElem?_append_right (by rw [C.len]; omega)] at q2
                exact (List.nodup_append.mp nd).2.2 a z a (List.mem_of_getElem? q2) rfl
              exact k _ F1 H1 e1.cut cc ⟨a, us, rfl, e1.fra a (List.mem_of_getElem? q2) na, c1.out a (List.mem_of_getElem? q2), na, q3, q4⟩
            · cases hm
        · cases hm
        · cases hm
          exact k _ F1 H1 e1.cut cc q1
        · cases hm
          obtain ⟨a, us, q2, q3, q4, q5, q6, q7⟩ := q1
          refine k _ F1 H1 e1.cut cc ⟨a, us, q2, q3, q4, fun z => q5 ?_, q6, q7⟩
          obtain ⟨x, e⟩ := e1.ext
          rw [e]
          exact List.mem_append_left _ z
      · rename_i δ1 μ1 h1
        cases hm
        exact ⟨F, α, _, μ, _, C, en, h1, fun F1 α1 σ1 H1 e1 c1 q1 => k _ F1 H1 e1.cut (c1.cut e1.ext C.len) .non⟩
      · cases hm
    · cases hm
/-- a def of the text, by its name -/
structure FS (P : Program) (w : World) (K : PySem.W.Frag) (mg : Str → Option Value) (base : Heap) (cl : Nat → Addr) (k : Nat) (x : Str) (n : Nat) (m : MF) : Prop where
  ok : ∃ (f : Addr) (fd : FuncData) (ps : List Str), FnOk P w K mg base CX0 k f fd ps (spM K cl n m) ∧ mg x = some (.ref f) ∧ PySem.W.keepIn K (.ref f) = true ∧ Binds K fd ps [] ∧ ps.length = n
  ar : ∀ rs μ z, m rs μ = some z → rs.length = n
theorem mDef_ar {n N : Nat} {body : MS} : ∀ rs μ z, mDef n N body rs μ = some z → rs.length = n := fun rs μ z h => by
  unfold mDef at h
  split at h
  · rename_i h1
    exact h1
  · cases h
@[simp] def mCall (f : MF) (ms : MA) : ME := fun δ μ => match ms δ μ with
  | none => none
  | some (rs, μ1) => f rs μ1
theorem call_imp {n : Nat} {mf : MF} {ms : MA} (ar : ∀ rs μ z, mf rs μ = some z → rs.length = n) : ∀ σ H Q, tm K cl (mCall mf ms) σ H Q → tCall (spM K cl n mf) [] E0 (tma K cl ms) σ H Q := fun σ H Q ⟨F, α, δ, μ, z, μ', C, Ee, hm, k⟩ => by
  unfold mCall at hm
  split at hm
  · cases hm
  rename_i rs μ1 h1
  refine ⟨F, α, δ, μ, rs, μ1, C, Ee, h1, fun vs F1 H1 e1 c1 q1 => ?_⟩
  refine ⟨F1, α, μ1, rs, z, μ', by rw [List.append_nil, q1.length, ar _ _ _ hm], c1, by rw [List.append_nil]; exact q1, hm, fun v F2 H2 e2 c2 r2 => k v F2 H2 (e1.trans e2) c2 (r2.back e1.dom)⟩
variable {X : Cx} {e : Expr} {es : List Expr} {pos p : Pos} {k j n : Nat} {x : Str} {mf : MF} {ms : MA}
theorem se_call (S : FS X.prog X.w X.K X.mg X.base cl k x n mf) (hr : Room j X.A) (hk : k ≤ j) (ha : SA X cl (e :: es) ms) (hg : Gl X x := by rfl) (hdb : (x == ("__debug__" : Str)) = false := by decide) (he : starEach (e :: es) X.env = (false, eval e X.env) :: starEach es X.env := by rfl) (hpl : (backTo pos (starEach es X.env)).any (·.1) = false := by rfl) :
    SE X cl (.Call (.Name x p) (e :: es) [] pos) (mCall mf ms) := by
  obtain ⟨f, fd, ps, F, hm, hkp, hb, _⟩ := S.ok
  exact PE.weak (pe_call F (hr.mono hk) hg hm hkp hb .nil pass0 ha hdb he hpl) (call_imp S.ar)
theorem se_call0 (S : FS X.prog X.w X.K X.mg X.base cl k x n mf) (hr : Room j X.A) (hk : k ≤ j) (hg : Gl X x := by rfl) (hdb : (x == ("__debug__" : Str)) = false := by decide) : SE X cl (.Call (.Name x p) [] [] pos) (mCall mf mNil) := by
  obtain ⟨f, fd, ps, F, hm, hkp, hb, _⟩ := S.ok
  refine PE.weak (pe_call0 F (hr.mono hk) hg hm hkp hb .nil pass0 hdb) fun σ H Q h => ?_
  obtain ⟨F, α, δ, μ, z, μ', C, Ee, hm, k⟩ := h
  have hm' : mf [] μ = some (z, μ') := hm
  exact ⟨F, α, μ, [], z, μ', S.ar _ _ _ hm', C, .nil, hm', k⟩
end
end DL
set_option Elab.async false
set_option linter.all false
set_option maxRecDepth 100000
set_option maxHeartbeats 1000000
namespace DL
open PySem PySem.Spec PyProof.Rows L2
section
variable {X : Cx} {cl : Nat → Addr} {e a b c : Expr} {es : List Expr} {m ma mb mc : ME} {pos p : Pos} {K : PySem.W.Frag} {mt : MT} {m1 m2 : MS} {st : Stmt} {sts : List Stmt}
theorem EndOk.pre {F H F1 H1 : Hp} {α α1 : List Addr} {E : Ends} {fl : Flo} (k : EndOk K cl F α H E fl) (e : Evo F α H F1 α1 H1) : EndOk K cl F1 α1 H1 E fl := by
  cases fl with
  | nx δ μ => exact fun F' α' σ' H' e1 c1 q1 => k F' α' σ' H' (e.trans e1) c1 q1
  | bk δ μ => exact fun F' α' σ' H' e1 c1 q1 => k F' α' σ' H' (e.trans e1) c1 q1
  | ct δ μ => exact fun F' α' σ' H' e1 c1 q1 => k F' α' σ' H' (e.trans e1) c1 q1
  | rt r μ => exact fun v F' α' H' e1 c1 q1 => k v F' α' H' (e.trans e1) c1 (q1.back e.dom)
/-! ### blocks -/
@[simp] def mNx : MS := fun δ μ => some (.nx δ μ)
@[simp] def mSeq (m1 m2 : MS) : MS := fun δ μ => match m1 δ μ with
  | some (.nx δ' μ') => m2 δ' μ'
  | r => r
theorem sss_nil : SSs X cl [] mNx := by
  refine PSs.weak pss_nil fun E σ H ⟨F, α, δ, μ, fl, C, Ee, hm, k⟩ => ?_
  cases hm
  exact k F α σ H Evo.refl C Ee
theorem sss_one (h : SS X cl st m1) : SSs X cl [st] m1 := pss_one h
theorem sss_cons (h1 : SS X cl st m1) (h2 : SSs X cl sts m2) : SSs X cl (st :: sts) (mSeq m1 m2) := by
  refine PSs.weak (pss_cons h1 h2) fun E σ H ⟨F, α, δ, μ, fl, C, Ee, hm, k⟩ => ?_
  unfold mSeq at hm
  split at hm
  · rename_i δ1 μ1 h1
    exact ⟨F, α, δ, μ, _, C, Ee, h1, fun F1 α1 σ1 H1 e1 c1 q1 => ⟨F1, α1, δ1, μ1, fl, c1, q1, hm, k.pre e1⟩⟩
  · rename_i h1
    refine ⟨F, α, δ, μ, fl, C, Ee, hm, ?_⟩
    cases fl with
    | nx δ' μ' => exact absurd hm (h1 δ' μ')
    | bk δ' μ' => exact k
    | ct δ' μ' => exact k
    | rt r μ' => exact k
@[simp] def mBk : MS := fun δ μ => some (.bk δ μ)
@[simp] def mCt : MS := fun δ μ => some (.ct δ μ)
@[simp] def mNever : MS := fun _ _ => none
theorem ss_pass : SS X cl (.Pass pos) mNx := by
  refine PS.weak ps_pass fun E σ H ⟨F, α, δ, μ, fl, C, Ee, hm, k⟩ => ?_
  cases hm
  exact k F α σ H Evo.refl C Ee
theorem ss_break : SS X cl (.Break pos) mBk := by
  refine PS.weak ps_break fun E σ H ⟨F, α, δ, μ, fl, C, Ee, hm, k⟩ => ?_
  cases hm
  exact k F α σ H Evo.refl C Ee
theorem ss_cont : SS X cl (.Continue pos) mCt := by
  refine PS.weak ps_continue fun E σ H ⟨F, α, δ, μ, fl, C, Ee, hm, k⟩ => ?_
  cases hm
  exact k F α σ H Evo.refl C Ee
theorem ss_never : SS X cl st mNever := by
  refine PS.weak ps_never fun E σ H ⟨F, α, δ, μ, fl, C, Ee, hm, k⟩ => ?_
  cases hm
@[simp] def mRet (m : ME) : MS := fun δ μ => match m δ μ with
  | some (r, μ1) => some (.rt r μ1)
  | none => none
theorem ss_ret (h : SE X cl e m) : SS X cl (.Return (some e) pos) (mRet m) := by
  refine PS.weak (ps_ret h) fun E σ H ⟨F, α, δ, μ, fl, C, Ee, hm, k⟩ => ?_
  unfold mRet at hm
  split at hm
  · rename_i r μ1 h1
    cases hm
    exact ⟨F, α, δ, μ, r, μ1, C, Ee, h1, fun v F1 H1 e1 c1 q1 => k v F1 α H1 e1 c1 q1⟩
  · cases hm
@[simp] def mDrop (m : ME) : MS := fun δ μ => match m δ μ with
  | some (_, μ1) => some (.nx δ μ1)
  | none => none
theorem ss_expr (h : SE X cl e m) (hs : swapsWith e none pos.line X.env = pure false := by rfl) : SS X cl (.Expr e pos) (mDrop m) := by
  refine PS.weak (ps_expr h hs) fun E σ H ⟨F, α, δ, μ, fl, C, Ee, hm, k⟩ => ?_
  unfold mDrop at hm
  split at hm
  · rename_i r μ1 h1
    cases hm
    exact ⟨F, α, δ, μ, r, μ1, C, Ee, h1, fun v F1 H1 e1 c1 q1 => k F1 α σ H1 e1 c1 (Ee.step e1)⟩
  · cases hm
@[simp] def mIfS (mt : MT) (m1 m2 : MS) : MS := fun δ μ => match mt δ μ with
  | some (true, μ1) => m1 δ μ1
  | some (false, μ1) => m2 δ μ1
  | none => none
theorem ss_if {xs ys : List Stmt} (hc : ST X cl c mt) (ha : SSs X cl xs m1) (hb : SSs X cl ys m2) : SS X cl (.If c xs ys pos) (mIfS mt m1 m2) := by
  refine PS.weak (ps_if hc ha hb) fun E σ H ⟨F, α, δ, μ, fl, C, Ee, hm, k⟩ => ?_
  unfold mIfS at hm
  split at hm
  · rename_i μ1 h1
    exact ⟨F, α, δ, μ, _, μ1, C, Ee, h1, fun F1 H1 e1 c1 => iteT ⟨F1, α, δ, μ1, fl, c1, Ee.step e1, hm, k.pre e1⟩⟩
  · rename_i μ1 h1
    exact ⟨F, α, δ, μ, _, μ1, C, Ee, h1, fun F1 H1 e1 c1 => iteF ⟨F1, α, δ, μ1, fl, c1, Ee.step e1, hm, k.pre e1⟩⟩
  · cases hm
/-! ### assignments -/
/-- what is stored: plain data, or a cell's name -/
@[simp] def putR (i : Nat) (r : R) (δ : Sl) : Option Sl := match r with
  | .dat d => some (δ.set i (.dat d))
  | .fr xs => some (δ.set i (.dat (.lst xs)))
  | .cel k => some (δ.set i (.cel k))
  | .no => none
@[simp] def mSet (i : Nat) (m : ME) : MS := fun δ μ => match m δ μ with
  | some (r, μ1) => match putR i r δ with
    | some δ1 => some (.nx δ1 μ1)
    | none => none
  | none => none
theorem put_ok {F H H0 : Hp} {α : List Addr} {σ : L2.St} {δ δ1 : Sl} {v : V} {r : R} {i : Nat} (en : EnvOk K cl F α σ δ) (h : RepR K cl H0 F α H v (froz r)) (q : putR i r δ = some δ1) : EnvOk K cl F α (σ.set i (some v)) δ1 := by
  cases r with
  | no => cases q
  | dat d =>
    cases q
    exact en.put i h
  | fr xs =>
    cases q
    exact en.put i h
  | cel k =>
    cases q
    obtain ⟨a, h1, rfl⟩ := h
    exact en.putC i h1
theorem set_imp {i : Nat} : ∀ E σ H, tms K cl (mSet i m) E σ H → tAsg (tm K cl m) (gName i) E σ H := fun E σ H ⟨F, α, δ, μ, fl, C, Ee, hm, k⟩ => by
  unfold mSet at hm
  split at hm
  · rename_i r μ1 h1
    split at hm
    · rename_i δ1 h2
      cases hm
      refine ⟨F, α, δ, μ, r, μ1, C, Ee, h1, fun v F1 H1 e1 c1 q1 => ?_⟩
      obtain ⟨F2, e2, c2, r2⟩ := freeze e1 c1 q1
      exact k F2 α _ H1 e2 c2 (put_ok (Ee.step e2) r2 h2)
    · cases hm
  · cases hm
theorem ss_set {i : Nat} {x : Str} {pos' : Pos} (hN : X.N.Nodup) (he : SE X cl e m) (hi : X.N[i]? = some x := by rfl) (hx : Loc X.env.scope x := by first | exact .inl rfl | exact .inr rfl) (hs : swapsWith e (some (.Name x pos')) pos.line X.env = pure false := by rfl) (hf : X.fn x = true ∨ X.env.scope.names.lookup x = some .local := by first | exact .inl rfl | exact .inr rfl) :
    SS X cl (.Assign [.Name x pos'] e pos) (mSet i m) := PS.weak (ps_set hN hi hx he hs hf) set_imp
/-- a name that holds a list of its own -/
@[simp] def mSetC (i : Nat) (m : ME) : MS := fun δ μ => match m δ μ with
  | some (.fr xs, μ1) => some (.nx (δ.set i (.cel μ1.length)) (μ1 ++ [xs]))
  | _ => none
theorem mkCell {F0 F H0 H : Hp} {α : List Addr} {μ : Mu} {v : V} {xs : List D} (e : Evo F0 α H0 F α H) (C : Conc K cl F α μ H) (h : RepR K cl H0 F α H v (.fr xs)) :
    ∃ a, v = .ref a ∧ Evo F0 α H0 F (α ++ [a]) H ∧ Conc K cl F (α ++ [a]) (μ ++ [xs]) H ∧ (α ++ [a])[μ.length]? = some a := by
  obtain ⟨a, vs, h1, h2, h3, h4, h5, h6⟩ := h
  refine ⟨a, h1, ⟨e.ff, ⟨[a], rfl⟩, e.hh, e.dom, e.fre, fun b hb q => ?_⟩, ⟨C.sub, by simp [C.len], ?_, fun k b ys q1 q2 => ?_, fun b hb => ?_⟩, ?_⟩
  · rcases List.mem_append.mp hb with z | z
    · exact absurd z q
    · rw [List.mem_singleton.mp z]
      exact h2
  · rw [List.nodup_append]
    exact ⟨C.nd, by simp, fun x hx y hy z => h4 (by rw [List.mem_singleton.mp hy] at z; rw [← z]; exact hx)⟩
  · by_cases hk : k < α.length
    · rw [List.getElem?_append_left hk] at q1
      rw [List.getElem?_append_left (by rw [← C.len]; exact hk)] at q2
      exact C.cell k b ys q1 q2
    · have e1 : k = α.length := by
        have := (List.getElem?_eq_some_iff.mp q1).1
        rw [List.length_append] at this
        simp at this
        omega
      subst e1
      rw [List.getElem?_append_right (Nat.le_refl _), Nat.sub_self] at q1
      rw [C.len, List.getElem?_append_right (Nat.le_refl _), Nat.sub_self] at q2
      simp at q1 q2
      subst q1 q2
      exact ⟨vs, h5, h6⟩
  · rcases List.mem_append.mp hb with z | z
    · exact C.out b z
    · rw [List.mem_singleton.mp z]
      exact h3
  · rw [← C.len, List.getElem?_append_right (Nat.le_refl _), Nat.sub_self]
    rfl
theorem EnvOk.cellUp {F : Hp} {α : List Addr} {σ : L2.St} {δ : Sl} {a : Addr} (h : EnvOk K cl F α σ δ) : EnvOk K cl F (α ++ [a]) σ δ := by
  refine ⟨h.1, h.2.1, fun i k q => ?_⟩
  obtain ⟨b, h1, h2⟩ := h.2.2 i k q
  exact ⟨b, by rw [List.getElem?_append_left (List.getElem?_eq_some_iff.mp h1).1]; exact h1, h2⟩
theorem setC_imp {i : Nat} : ∀ E σ H, tms K cl (mSetC i m) E σ H → tAsg (tm K cl m) (gName i) E σ H := fun E σ H ⟨F, α, δ, μ, fl, C, Ee, hm, k⟩ => by
  unfold mSetC at hm
  split at hm
  · rename_i xs μ1 h1
    cases hm
    refine ⟨F, α, δ, μ, _, μ1, C, Ee, h1, fun v F1 H1 e1 c1 q1 => ?_⟩
    obtain ⟨a, rfl, e2, c2, l2⟩ := mkCell e1 c1 q1
    exact k F1 _ _ H1 e2 c2 (((Ee.step e1).cellUp).putC i l2)
  · cases hm
theorem ss_setC {i : Nat} {x : Str} {pos' : Pos} (hN : X.N.Nodup) (he : SE X cl e m) (hi : X.N[i]? = some x := by rfl) (hx : Loc X.env.scope x := by first | exact .inl rfl | exact .inr rfl) (hs : swapsWith e (some (.Name x pos')) pos.line X.env = pure false := by rfl) (hf : X.fn x = true ∨ X.env.scope.names.lookup x = some .local := by first | exact .inl rfl | exact .inr rfl) :
    SS X cl (.Assign [.Name x pos'] e pos) (mSetC i m) := PS.weak (ps_set hN hi hx he hs hf) setC_imp
/-! a, b = e1, e2 -/
/-- store: by a flag as plain data or as a cell of its own -/
@[simp] def stR (cellq : Bool) (i : Nat) (r : R) (δ : Sl) (μ : Mu) : Option (Sl × Mu) := match cellq, r with
  | true, .fr xs => some (δ.set i (.cel μ.length), μ ++ [xs])
  | true, _ => none
  | false, r => match putR i r δ with
    | some δ1 => some (δ1, μ)
    | none => none
@[simp] def mPar (ci cj : Bool) (i j : Nat) (ma mb : ME) : MS := fun δ μ => match ma δ μ with
  | none => none
  | some (x, μ1) => match mb δ μ1 with
    | none => none
    | some (y, μ2) => match stR ci i x δ μ2 with
      | none => none
      | some (δ1, μ3) => match stR cj j y δ1 μ3 with
        | none => none
        | some (δ2, μ4) => some (.nx δ2 μ4)
theorem st_ok {F0 F H0 H : Hp} {α0 α : List Addr} {μ μ1 : Mu} {σ : L2.St} {δ δ1 : Sl} {v : V} {r : R} {i : Nat} {q : Bool} (e : Evo F0 α0 H0 F α H) (C : Conc K cl F α μ H) (en : EnvOk K cl F α σ δ) (h : RepR K cl H0 F α H v r) (hq : stR q i r δ μ = some (δ1, μ1)) :
    ∃ F1 α1, Evo F0 α0 H0 F1 α1 H ∧ Same F F1 ∧ (∃ x, α1 = α ++ x) ∧ (∀ b, b ∈ α1 → b ∉ α → .ref b = v ∧ ∃ xs, r = .fr xs) ∧ (∀ b o, F b = none → F1 b = some o → .ref b = v ∧ ∃ xs, r = .fr xs) ∧ Conc K cl F1 α1 μ1 H ∧ EnvOk K cl F1 α1 (σ.set i (some v)) δ1 := by
  cases q with
  | true =>
    cases r with
    | fr xs =>
      cases hq
      obtain ⟨a, vs, h1, h2, h3, h4, h5, h6⟩ := id h
      have e' : Evo F α H0 F α H := ⟨Same.refl F, ⟨[], by simp⟩, fun b o hb hb' => by
        by_cases z : b ∈ α0
        · obtain ⟨x, ex⟩ := e.ext
          exact absurd (by rw [ex]; exact List.mem_append_left _ z) hb'
        · exact e.hh b o hb z, e.dom, fun b o hb hq => (by rw [hb] at hq; cases hq), fun b hb hq => absurd hb hq⟩
      obtain ⟨a', rfl, e2, c2, l2⟩ := mkCell e' C h
      refine ⟨F, α ++ [a'], ⟨e.ff, ?_, e.hh, e.dom, e.fre, fun b hb hq => ?_⟩, Same.refl F, ⟨[a'], rfl⟩, fun b hb hq => ?_, fun b o hb hq => (by rw [hb] at hq; cases hq), c2, (en.cellUp).putC i l2⟩
      · obtain ⟨x, ex⟩ := e.ext
        exact ⟨x ++ [a'], by rw [ex, List.append_assoc]⟩
      · by_cases z : b ∈ α
        · exact e.fra b z hq
        · exact e2.fra b hb z
      · rcases List.mem_append.mp hb with z | z
        · exact absurd z hq
        · rw [List.mem_singleton.mp z]
          exact ⟨rfl, xs, rfl⟩
    | no => cases hq
    | dat d => cases hq
    | cel k => cases hq
  | false =>
    unfold stR at hq
    simp only at hq
    split at hq
    · rename_i δ' h2
      cases hq
      cases r with
      | no => cases h2
      | dat d => exact ⟨F, α, e, Same.refl F, ⟨[], by simp⟩, fun b hb hq => absurd hb hq, fun b o hb hq => (by rw [hb] at hq; cases hq), C, put_ok (r := .dat d) en h h2⟩
      | cel k => exact ⟨F, α, e, Same.refl F, ⟨[], by simp⟩, fun b hb hq => absurd hb hq, fun b o hb hq => (by rw [hb] at hq; cases hq), C, put_ok (r := .cel k) en h h2⟩
      | fr xs =>
        obtain ⟨a, vs, h1, g2, h3, h4, h5, h6⟩ := id h
        have sm : Same F (upd F a (.lst vs)) := same_upd h3
        refine ⟨upd F a (.lst vs), α, ⟨e.ff.trans sm, e.ext, e.hh, e.dom, fun b o hb hq => ?_, e.fra⟩, sm, ⟨[], by simp⟩, fun b hb hq => absurd hb hq, fun b o hb hq => ?_, ⟨fun b o hb => ?_, C.len, C.nd, fun k b ys q1 q2 => ?_, fun b hb => ?_⟩, ?_⟩
        · by_cases z : b = a
          · rw [z]
            exact g2
          · exact e.fre b o hb (upd_some_ne hq z)
        · by_cases z : b = a
          · rw [z]
            exact ⟨h1.symm, xs, rfl⟩
          · have := upd_some_ne hq z
            rw [hb] at this
            cases this
        · by_cases z : b = a
          · subst z
            rw [upd_same] at hb
            cases hb
            exact h5
          · exact C.sub b o (upd_some_ne hb z)
        · obtain ⟨us, q3, q4⟩ := C.cell k b ys q1 q2
          exact ⟨us, q3, q4.mono sm⟩
        · rw [upd_ne (show b ≠ a from fun z => h4 (by rw [← z]; exact hb))]
          exact C.out b hb
        · refine put_ok (H := H) (H0 := H0) (r := .fr xs) ⟨en.1, fun i d q => ?_, en.2.2⟩ ?_ h2
          · obtain ⟨w, g1, g2⟩ := en.2.1 i d q
            exact ⟨w, g1, g2.mono sm⟩
          · show Rep K cl _ v _
            rw [h1]
            exact .lst upd_same (h6.mono sm)
    · cases hq
/-- what stays of a second value behind the first store -/
theorem RepR.other {F F1 H H0 : Hp} {α α1 : List Addr} {w : V} {r : R} {P : Addr → Prop} (h : RepR K cl H0 F α H w r) (sm : Same F F1) (ex : ∃ x, α1 = α ++ x) (n1 : ∀ b, b ∈ α1 → b ∉ α → P b) (n2 : ∀ b o, F b = none → F1 b = some o → P b) (ne : ∀ a xs, r = .fr xs → w = .ref a → ¬ P a) : RepR K cl H0 F1 α1 H w r := by
  cases r with
  | no => exact h
  | dat d => exact Rep.mono sm h
  | cel k =>
    obtain ⟨a, h1, h2⟩ := h
    obtain ⟨x, rfl⟩ := ex
    exact ⟨a, by rw [List.getElem?_append_left (List.getElem?_eq_some_iff.mp h1).1]; exact h1, h2⟩
  | fr xs =>
    obtain ⟨a, vs, h1, h2, h3, h4, h5, h6⟩ := h
    refine ⟨a, vs, h1, h2, ?_, fun z => ?_, h5, h6.mono sm⟩
    · cases q : F1 a with
      | none => rfl
      | some o => exact absurd (n2 a o h3 q) (ne a xs rfl h1)
    · exact absurd (n1 a z h4) (ne a xs rfl h1)
/-- two results in a row, as they come -/
theorem ss_par {ci cj : Bool} {i j : Nat} {x y : Str} {px py pt : Pos} {kt k2 : Nat} {pt2 : Pos} (hN : X.N.Nodup) (ha : SE X cl a ma) (hb : SE X cl b mb) (hij : i ≠ j := by decide) (hc : X.calm = true := by rfl) (hi : X.N[i]? = some x := by rfl) (hj : X.N[j]? = some y := by rfl)
    (hx : X.env.scope.names.lookup x = some .local := by rfl) (hy : X.env.scope.names.lookup y = some .local := by rfl)
    (hw : swappedStores [.Tuple [.Name x px, .Name y py] kt pt] (.Tuple [a, b] k2 pt2) X.env = pure (some [x, y]) := by rfl)
    (hs : swapsWithSole [.Tuple [.Name x px, .Name y py] kt pt] (.Tuple [a, b] k2 pt2) pos.line X.env = pure false := by rfl)
    (ha1 : starEach (a :: [b]) X.env = (false, eval a X.env) :: starEach [b] X.env := by rfl) (hb1 : starEach (b :: []) X.env = (false, eval b X.env) :: starEach [] X.env := by rfl) :
    SS X cl (.Assign [.Tuple [.Name x px, .Name y py] kt pt] (.Tuple [a, b] k2 pt2) pos) (mPar ci cj i j ma mb) := by
  refine PS.weak (ps_par hc hN hi hj hij hx hy (pa_cons ha (pa_cons hb pa_nil hb1) ha1) hw hs) fun E σ H ⟨F, α, δ, μ, fl, C, Ee, hm, k⟩ => ?_
  unfold mPar at hm
  split at hm
  · cases hm
  rename_i r1 μ1 h1
  split at hm
  · cases hm
  rename_i r2 μ2 h2
  split at hm
  · cases hm
  rename_i δ1 μ3 h3
  split at hm
  · cases hm
  rename_i δ2 μ4 h4
  cases hm
  refine ⟨F, α, δ, μ, r1, μ1, C, Ee, h1, fun v F1 H1 e1 c1 q1 => ⟨F1, α, δ, μ1, r2, μ2, c1, Ee.step e1, h2, fun w F2 H2 e2 c2 q2 => ⟨v, w, rfl, ?_⟩⟩⟩
  obtain ⟨F3, α3, e3, sm, ex, n1, n2, c3, en3⟩ := st_ok (e1.trans e2) c2 ((Ee.step e1).step e2) (q1.step e2) h3
  have q2' := (q2.back e1.dom).other sm ex n1 n2 fun a xs hr hw hp => by
    subst hr
    obtain ⟨z, ys, hy⟩ := hp
    subst hy
    obtain ⟨aw, vs, g1, g2, g3⟩ := q2
    obtain ⟨a', us, z1, z2, z3, z4, z5, _⟩ := q1
    rw [hw] at g1
    cases g1
    rw [← z] at z1
    cases z1
    rw [g2] at z5
    cases z5
  obtain ⟨F4, α4, e4, _, _, _, _, c4, en4⟩ := st_ok e3 c3 en3 q2' h4
  exact k F4 α4 _ H2 e4 c4 en4
end
end DL
set_option Elab.async false
set_option linter.all false
set_option maxRecDepth 100000
set_option maxHeartbeats 1000000
namespace DL
open PySem PySem.Spec PyProof.Rows L2
section
variable {X : Cx} {cl : Nat → Addr} {e a b c : Expr} {es : List Expr} {m ma mb mc : ME} {pos p : Pos} {K : PySem.W.Frag} {mt : MT} {m1 m2 : MS} {st : Stmt} {sts : List Stmt}
/-! ### a cell is changed -/
theorem nd_ix {N : List Addr} (hN : N.Nodup) {i j : Nat} {x : Addr} (a : N[i]? = some x) (b : N[j]? = some x) : i = j := by
  obtain ⟨h1, e1⟩ := List.getElem?_eq_some_iff.mp a
  obtain ⟨h2, e2⟩ := List.getElem?_eq_some_iff.mp b
  exact (List.getElem_inj hN).mp (e1.trans e2.symm)
theorem Conc.put {F H : Hp} {α : List Addr} {μ : Mu} {k : Nat} {ad : Addr} {vs : List V} {xs : List D} (C : Conc K cl F α μ H) (hk : α[k]? = some ad) (q : Reps K cl F vs xs) : Evo F α H F α (upd H ad (.lst vs)) ∧ Conc K cl F α (μ.set k xs) (upd H ad (.lst vs)) := by
  have hin : ad ∈ α := List.mem_of_getElem? hk
  have hsome : ∃ o, H ad = some o := by
    have hl : k < μ.length := by rw [← C.len]; exact (List.getElem?_eq_some_iff.mp hk).1
    obtain ⟨us, h1, _⟩ := C.cell k ad μ[k] hk (List.getElem?_eq_getElem hl)
    exact ⟨_, h1⟩
  obtain ⟨o, ho⟩ := hsome
  refine ⟨⟨Same.refl F, ⟨[], by simp⟩, fun b u h n => ?_, fun b h => ?_, fun b u h z => (by rw [h] at z; cases z), fun b h z => absurd h z⟩, ⟨fun b u h => ?_, by simp [C.len], C.nd, fun j b ys h1 h2 => ?_, C.out⟩⟩
  · rw [upd_ne (fun z => n (by rw [z]; exact hin))]
    exact h
  · by_cases z : b = ad
    · rw [z, upd_same] at h
      cases h
    · rw [upd_ne z] at h
      exact h
  · have : b ≠ ad := fun z => by
      have := C.out ad hin
      rw [← z, h] at this
      cases this
    rw [upd_ne this]
    exact C.sub b u h
  · by_cases hj : k = j
    · subst hj
      rw [hk] at h1
      cases h1
      rw [List.getElem?_set_self (by rw [← C.len]; exact (List.getElem?_eq_some_iff.mp hk).1)] at h2
      cases h2
      exact ⟨vs, upd_same, q⟩
    · rw [List.getElem?_set_ne hj] at h2
      obtain ⟨us, q1, q2⟩ := C.cell j b ys h1 h2
      refine ⟨us, ?_, q2⟩
      rw [upd_ne (fun z => hj ?_)]
      · exact q1
      · rw [z] at h1
        obtain ⟨l1, e1⟩ := List.getElem?_eq_some_iff.mp hk
        obtain ⟨l2, e2⟩ := List.getElem?_eq_some_iff.mp h1
        exact nd_ix C.nd hk h1
/-! x[i] = e -/
@[simp] def mPut (mo mi m : ME) : MS := fun δ μ => match m δ μ with
  | none => none
  | some (r, μ1) => match toD r with
    | none => none
    | some d => match mo δ μ1 with
      | some (.cel k, μ2) => match mi δ μ2 with
        | some (.dat (.int i), μ3) => match μ3[k]? with
          | none => none
          | some xs => match ixN xs.length i with
            | none => none
            | some j => some (.nx δ (μ3.set k (xs.set j d)))
        | _ => none
      | _ => none
theorem ss_put {o i : Expr} {mo mi : ME} {p2 : Pos} (ho : SE X cl o mo) (hi : SE X cl i mi) (he : SE X cl e m) (hs : swapsWithSole [.Subscript o i p2] e pos.line X.env = pure false := by rfl) (hw : swappedStores [.Subscript o i p2] e X.env = pure none := by rfl)
    (h1 : (assignEach [.Subscript o i p2] X.env).map (·.2) = [assign (.Subscript o i p2) X.env] := by rfl)
    (has : ∀ v, assign (.Subscript o i p2) X.env v = (do
      let ov ← holding [v] (eval o X.env)
      let iv ← holding [v, ov] (eval i X.env)
      standAt p2
      holding [v, ov, iv] (setItem ov iv v)
      release [v, ov, iv] []) := by intro _; rfl) : SS X cl (.Assign [.Subscript o i p2] e pos) (mPut mo mi m) := by
  refine PS.weak (ps_asg he (pg_sub ho hi set_list has) hs hw h1) fun E σ H ⟨F, α, δ, μ, fl, C, Ee, hm, k⟩ => ?_
  unfold mPut at hm
  split at hm
  · cases hm
  rename_i r μ1 h1
  split at hm
  · cases hm
  rename_i d h2
  split at hm
  · rename_i kk μ2 h3
    split at hm
    · rename_i ii μ3 h4
      split at hm
      · cases hm
      rename_i xs h5
      split at hm
      · cases hm
      rename_i j h6
      cases hm
      refine ⟨F, α, δ, μ, r, μ1, C, Ee, h1, fun v F1 H1 e1 c1 q1 => ?_⟩
      obtain ⟨F2, e2, c2, q2⟩ := freeze e1 c1 q1
      rw [froz_dat h2] at q2
      refine ⟨F2, α, δ, μ1, _, μ2, c2, Ee.step e2, h3, fun w F3 H3 e3 c3 q3 => ⟨F3, α, δ, μ2, _, μ3, c3, (Ee.step e2).step e3, h4, fun u F4 H4 e4 c4 q4 => ?_⟩⟩
      obtain ⟨ad, q5, rfl⟩ := q3
      obtain ⟨vs, q6, q7⟩ := c4.cell kk ad xs q5 h5
      have q8 : Rep X.K cl F4 v d := Rep.mono (e3.trans e4).ff q2
      refine ⟨ad, vs, ii, j, rfl, rep_int q4, q6, by rw [q7.length]; exact h6, ?_⟩
      obtain ⟨e5, c5⟩ := c4.put q5 (q7.set j q8)
      exact k F4 α σ _ (e2.trans (e3.trans (e4.trans e5))) c5 (((Ee.step e2).step e3).step e4)
    · cases hm
  · cases hm
/-! x += e -/
@[simp] def mAug (i : Nat) (f : Int → Int → Int) (m : ME) : MS := fun δ μ => match δ[i]? with
  | some (.dat (.int x)) => match m δ μ with
    | some (.dat (.int y), μ1) => some (.nx (δ.set i (.dat (.int (f x y)))) μ1)
    | _ => none
  | _ => none
theorem aug_imp {i : Nat} {f : Int → Int → Int} : ∀ E σ H, tms K cl (mAug i f m) E σ H → tAug i (tm K cl m) (ipI f) E σ H := fun E σ H ⟨F, α, δ, μ, fl, C, Ee, hm, k⟩ => by
  unfold mAug at hm
  split at hm
  · rename_i x h1
    split at hm
    · rename_i y μ1 h2
      cases hm
      obtain ⟨v, q1, q2⟩ := Ee.2.1 i _ h1
      refine ⟨v, q1, F, α, δ, μ, _, μ1, C, Ee, h2, fun w F1 H1 e1 c1 r1 => ⟨x, y, rep_int q2, rep_int r1, ?_⟩⟩
      exact k F1 α _ H1 e1 c1 ((Ee.step e1).put i (.int _))
    · cases hm
  · cases hm
theorem ss_augAdd {i : Nat} {x : Str} {pos' : Pos} (hN : X.N.Nodup) (he : SE X cl e m) (hi : X.N[i]? = some x := by rfl) (hx : Loc X.env.scope x := by first | exact .inl rfl | exact .inr rfl) (hf : X.fn x = true ∨ X.env.scope.names.lookup x = some .local := by first | exact .inl rfl | exact .inr rfl) :
    SS X cl (.AugAssign (.Name x pos') .Add e pos) (mAug i (fun x y => x + y) m) := PS.weak (ps_aug hN hi hx he ip_add hf) aug_imp
theorem ss_augSub {i : Nat} {x : Str} {pos' : Pos} (hN : X.N.Nodup) (he : SE X cl e m) (hi : X.N[i]? = some x := by rfl) (hx : Loc X.env.scope x := by first | exact .inl rfl | exact .inr rfl) (hf : X.fn x = true ∨ X.env.scope.names.lookup x = some .local := by first | exact .inl rfl | exact .inr rfl) :
    SS X cl (.AugAssign (.Name x pos') .Sub e pos) (mAug i (fun x y => x - y) m) := PS.weak (ps_aug hN hi hx he ip_sub hf) aug_imp
/-! ### methods of a list -/
def BmSem (K : PySem.W.Frag) (cl : Nat → Addr) (r : V → List V → Hp → VK → Prop) (f : Nat → List R → Mu → Option (R × Mu)) : Prop := ∀ (F : Hp) (α : List Addr) (μ μ' : Mu) (H : Hp) (kk : Nat) (ad : Addr) (vs : List V) (rs : List R) (z : R) (Q : VK), Conc K cl F α μ H → α[kk]? = some ad → ArgRs K cl F α vs rs → f kk rs μ = some (z, μ') →
  (∀ v F' H', Evo F α H F' α H' → Conc K cl F' α μ' H' → RepR K cl H F' α H' v z → Q v H') → r (.ref ad) vs H Q
@[simp] def mBm (f : Nat → List R → Mu → Option (R × Mu)) (mo : ME) (ms : MA) : ME := fun δ μ => match mo δ μ with
  | some (.cel k, μ1) => match ms δ μ1 with
    | some (rs, μ2) => f k rs μ2
    | none => none
  | _ => none
theorem se_bm {r : V → List V → Hp → VK → Prop} {f : Nat → List R → Mu → Option (R × Mu)} {mo : ME} {ms : MA} (h : PE X e (tBM X.K "list" r (tm X.K cl mo) (tma X.K cl ms))) (hf : BmSem X.K cl r f) : SE X cl e (mBm f mo ms) := by
  refine PE.weak h fun σ H Q ⟨F, α, δ, μ, z, μ', C, Ee, hm, k⟩ => ?_
  unfold mBm at hm
  split at hm
  · rename_i kk μ1 h1
    split at hm
    · rename_i rs μ2 h2
      refine ⟨F, α, δ, μ, _, μ1, C, Ee, h1, fun v F1 H1 e1 c1 q1 => ?_⟩
      obtain ⟨ad, q2, rfl⟩ := q1
      have hk : kk < μ1.length := by rw [← c1.len]; exact (List.getElem?_eq_some_iff.mp q2).1
      obtain ⟨us, q3, _⟩ := c1.cell kk ad μ1[kk] q2 (List.getElem?_eq_getElem hk)
      refine ⟨.inl ⟨rfl, us, SqL.of q3⟩, F1, α, δ, μ1, rs, μ2, c1, Ee.step e1, h2, fun vs F2 H2 e2 c2 q4 => ?_⟩
      exact hf F2 α μ2 μ' H2 kk ad vs rs z Q c2 q2 q4 hm fun v F3 H3 e3 c3 r3 => k v F3 H3 (e1.trans (e2.trans e3)) c3 (r3.back fun p hp => e1.dom p (e2.dom p hp))
    · cases hm
  · cases hm
@[simp] def fAppend (k : Nat) (rs : List R) (μ : Mu) : Option (R × Mu) := match rs with
  | [.dat d] => match μ[k]? with
    | some xs => if xs.length < 100000 then some (.dat .non, μ.set k (xs ++ [d])) else none
    | none => none
  | _ => none
theorem sem_append : BmSem K cl rAppend fAppend := by
  intro F α μ μ' H kk ad vs rs z Q C hk ha hz k
  unfold fAppend at hz
  split at hz
  · rename_i d
    split at hz
    · rename_i xs h1
      split at hz
      · rename_i hl
        cases hz
        obtain ⟨v, rfl, q1⟩ := args1 ha
        obtain ⟨us, q2, q3⟩ := C.cell kk ad xs hk h1
        refine ⟨ad, us, v, rfl, rfl, q2, sz_lt (by rw [q3.length]; exact hl), ?_⟩
        obtain ⟨e5, c5⟩ := C.put hk (q3.append (.cons q1 .nil))
        exact k _ F _ e5 c5 .non
      · cases hz
    · cases hz
  · cases hz
@[simp] def fInsert (k : Nat) (rs : List R) (μ : Mu) : Option (R × Mu) := match rs with
  | [.dat (.int i), .dat d] => match μ[k]? with
    | some xs => if xs.length < 100000 ∧ 0 ≤ i ∧ i ≤ 100000 then some (.dat .non, μ.set k (xs.take i.toNat ++ [d] ++ xs.drop i.toNat)) else none
    | none => none
  | _ => none
def rInsert : V → List V → Hp → VK → Prop := fun x vs H Q => ∃ (l : Addr) (xs : List V) (i : Int) (y : V), x = .ref l ∧ vs = [.int i, y] ∧ H l = some (.lst xs) ∧ xs.length < sizeLine ∧ 0 ≤ i ∧ i < 2 ^ 63 ∧
    Q .non (upd H l (.lst (xs.take i.toNat ++ [y] ++ xs.drop i.toNat)))
theorem sem_insert : BmSem K cl rInsert fInsert := by
  intro F α μ μ' H kk ad vs rs z Q C hk ha hz k
  unfold fInsert at hz
  split at hz
  · rename_i i d
    split at hz
    · rename_i xs h1
      split at hz
      · rename_i hl
        cases hz
        obtain ⟨v, w, rfl, q0, q1⟩ := args2 ha
        obtain ⟨us, q2, q3⟩ := C.cell kk ad xs hk h1
        refine ⟨ad, us, i, w, rfl, by rw [rep_int q0], q2, sz_lt (by rw [q3.length]; exact hl.1), hl.2.1, by omega, ?_⟩
        obtain ⟨e5, c5⟩ := C.put hk (((q3.take i.toNat).append (.cons q1 .nil)).append (q3.drop i.toNat))
        exact k _ F _ e5 c5 .non
      · cases hz
    · cases hz
  · cases hz
theorem Reps.erase {F : Hp} : ∀ {vs : List V} {ds : List D} (n : Nat), Reps K cl F vs ds → Reps K cl F (vs.eraseIdx n) (ds.eraseIdx n)
  | _, _, _, .nil => .nil
  | _, _, 0, .cons _ q => q
  | _, _, n + 1, .cons r q => .cons r (Reps.erase n q)
@[simp] def fPopAt (k : Nat) (rs : List R) (μ : Mu) : Option (R × Mu) := match rs with
  | [.dat (.int i)] => match μ[k]? with
    | some xs => match ixN xs.length i with
      | some j => match xs[j]? with
        | some d => if xs.length ≤ 100000 then some (.dat d, μ.set k (xs.eraseIdx j)) else none
        | none => none
      | none => none
    | none => none
  | _ => none
theorem sem_popAt : BmSem K cl rPopAt fPopAt := by
  intro F α μ μ' H kk ad vs rs z Q C hk ha hz k
  unfold fPopAt at hz
  split at hz
  · rename_i i
    split at hz
    · rename_i xs h1
      split at hz
      · rename_i j h2
        split at hz
        · rename_i d h3
          split at hz
          · rename_i hl
            cases hz
            obtain ⟨v, rfl, q0⟩ := args1 ha
            obtain ⟨us, q2, q3⟩ := C.cell kk ad xs hk h1
            obtain ⟨y, q4, q5⟩ := q3.get h3
            obtain ⟨s1, s2, s3, s4⟩ := ixN_seq h2
            refine ⟨ad, us, i, j, y, rfl, by rw [rep_int q0], q2, by omega, by omega, by rw [q3.length]; exact s1, q4, ?_⟩
            obtain ⟨e5, c5⟩ := C.put hk (q3.erase j)
            exact k _ F _ e5 c5 q5
          · cases hz
        · cases hz
      · cases hz
    · cases hz
  · cases hz
variable {o : Expr} {mo : ME} {ms : MA} {apos cpos : Pos}
theorem se_append (ho : SE X cl o mo) (ha : SA X cl [e] ms) (hbase : attributeBase o "append" X.env (eval o X.env) = eval o X.env := by rfl)
    (hfew : ((backTo cpos (starEach (e :: []) X.env)).all (fun x => !x.1) && (backToKw cpos (keywordEach [] X.env)).all (fun x => x.1.isSome) && decide ((e :: []).length + ([] : List Keyword).length + (if ([] : List Keyword).isEmpty then 0 else 1) < 30)) = true := by rfl)
    (hline : (apos.endLine == cpos.line) = true := by rfl) (hs : starEach (e :: []) X.env = (false, eval e X.env) :: starEach [] X.env := by rfl) (hplain : (backTo cpos (starEach [] X.env)).any (·.1) = false := by rfl) : SE X cl (.Call (.Attribute o "append" apos) [e] [] cpos) (mBm fAppend mo ms) :=
  se_bm (pe_bm PySem.F.plainAttrs_list PySem.F.slot_list_append PySem.F.type_list_append mt_append ho ha hbase hfew hline hs hplain) sem_append
theorem se_popAt (ho : SE X cl o mo) (ha : SA X cl [e] ms) (hbase : attributeBase o "pop" X.env (eval o X.env) = eval o X.env := by rfl)
    (hfew : ((backTo cpos (starEach (e :: []) X.env)).all (fun x => !x.1) && (backToKw cpos (keywordEach [] X.env)).all (fun x => x.1.isSome) && decide ((e :: []).length + ([] : List Keyword).length + (if ([] : List Keyword).isEmpty then 0 else 1) < 30)) = true := by rfl)
    (hline : (apos.endLine == cpos.line) = true := by rfl) (hs : starEach (e :: []) X.env = (false, eval e X.env) :: starEach [] X.env := by rfl) (hplain : (backTo cpos (starEach [] X.env)).any (·.1) = false := by rfl) : SE X cl (.Call (.Attribute o "pop" apos) [e] [] cpos) (mBm fPopAt mo ms) :=
  se_bm (pe_bm PySem.F.plainAttrs_list PySem.F.slot_list_pop PySem.F.type_list_pop mt_popAt ho ha hbase hfew hline hs hplain) sem_popAt
theorem se_insert {e2 : Expr} (ho : SE X cl o mo) (ha : SA X cl [e, e2] ms) (hbase : attributeBase o "insert" X.env (eval o X.env) = eval o X.env := by rfl)
    (hfew : ((backTo cpos (starEach (e :: [e2]) X.env)).all (fun x => !x.1) && (backToKw cpos (keywordEach [] X.env)).all (fun x => x.1.isSome) && decide ((e :: [e2]).length + ([] : List Keyword).length + (if ([] : List Keyword).isEmpty then 0 else 1) < 30)) = true := by rfl)
    (hline : (apos.endLine == cpos.line) = true := by rfl) (hs : starEach (e :: [e2]) X.env = (false, eval e X.env) :: starEach [e2] X.env := by rfl) (hplain : (backTo cpos (starEach [e2] X.env)).any (·.1) = false := by rfl) : SE X cl (.Call (.Attribute o "insert" apos) [e, e2] [] cpos) (mBm fInsert mo ms) :=
  se_bm (r := rInsert) (pe_bm PySem.F.plainAttrs_list PySem.F.slot_list_insert PySem.F.type_list_insert mt_insert ho ha hbase hfew hline hs hplain) sem_insert
/-! ### targets -/
abbrev TGT := D → Sl → Option Sl
def TgSem (K : PySem.W.Frag) (cl : Nat → Addr) (g : TG) (t : TGT) (vs : List Nat) : Prop := ∀ (F : Hp) (α : List Addr) (σ : L2.St) (δ δ' : Sl) (H : Hp) (v : V) (d : D) (Q : L2.St → Hp → Prop), Same F H → EnvOk K cl F α σ δ → Rep K cl F v d → t d δ = some δ' →
  (∀ σ', EnvOk K cl F α σ' δ' → wipe σ' vs = wipe σ vs → Q σ' H) → g v σ H Q
abbrev SG (X : Cx) (cl : Nat → Addr) (tg : Expr) (g : TG) (t : TGT) (vs : List Nat) : Prop := PG X tg g ∧ TgSem X.K cl g t vs
theorem wipe_in {σ : L2.St} {i : Nat} (hi : i < σ.length) : ∀ {vs : List Nat}, i ∈ vs → (wipe σ vs)[i]? = some none
  | v :: vs, h => by
    unfold wipe
    by_cases e : v = i
    · subst e
      rw [List.getElem?_set_self (by rw [wipe_length]; exact hi)]
    · rw [List.getElem?_set_ne e]
      rcases List.mem_cons.mp h with z | z
      · exact absurd z.symm e
      · exact wipe_in hi z
theorem wipe_eq {σ σ' : L2.St} {vs : List Nat} (hl : σ'.length = σ.length) (h : ∀ i, i ∉ vs → σ'[i]? = σ[i]?) : wipe σ' vs = wipe σ vs := by
  apply List.ext_getElem?
  intro i
  by_cases hi : i ∈ vs
  · by_cases hl2 : i < σ.length
    · rw [wipe_in hl2 hi, wipe_in (by rw [hl]; exact hl2) hi]
    · rw [List.getElem?_eq_none (by rw [wipe_length, hl]; omega), List.getElem?_eq_none (by rw [wipe_length]; omega)]
  · rw [wipe_out hi, wipe_out hi]
    exact h i hi
@[simp] def tgName (i : Nat) : TGT := fun d δ => some (δ.set i (.dat d))
@[simp] def tgPair (i j : Nat) : TGT := fun d δ => match d with
  | .tup [x, y] => some ((δ.set i (.dat x)).set j (.dat y))
  | _ => none
theorem sem_name {i : Nat} {vs : List Nat} (h : i ∈ vs) : TgSem K cl (gName i) (tgName i) vs := by
  intro F α σ δ δ' H v d Q sm en hv ht k
  cases ht
  refine k _ (en.put i hv) (wipe_eq (by simp) fun j hj => List.getElem?_set_ne (show i ≠ j from fun z => hj (by rw [← z]; exact h)))
theorem sem_pair {i j : Nat} {vs : List Nat} (h : i ∈ vs) (h' : j ∈ vs) : TgSem K cl (gTup K 2 (gCons (gName i) (gCons (gName j) gNil))) (tgPair i j) vs := by
  intro F α σ δ δ' H v d Q sm en hv ht k
  unfold tgPair at ht
  split at ht
  · rename_i x y
    cases ht
    cases hv with
    | tup q1 q2 =>
      cases q2 with
      | cons r1 q3 =>
        cases q3 with
        | cons r2 q4 =>
          cases q4
          refine ⟨_, _, rfl, Same.sqT sm q1, rfl, _, _, rfl, _, _, rfl, rfl, k _ ((en.put i r1).put j r2) (wipe_eq (by simp) fun l hl => ?_)⟩
          rw [List.getElem?_set_ne (show j ≠ l from fun z => hl (by rw [← z]; exact h')), List.getElem?_set_ne (show i ≠ l from fun z => hl (by rw [← z]; exact h))]
  · cases ht
theorem sg_name {i : Nat} {x : Str} {vs : List Nat} (hN : X.N.Nodup) (h : i ∈ vs := by decide) (hi : X.N[i]? = some x := by rfl) (hx : Loc X.env.scope x := by first | exact .inl rfl | exact .inr rfl) (hf : X.fn x = true ∨ X.env.scope.names.lookup x = some .local := by first | exact .inl rfl | exact .inr rfl) : SG X cl (.Name x pos) (gName i) (tgName i) vs :=
  ⟨pg_name hN hi hx hf, sem_name h⟩
theorem sg_pair {i j : Nat} {x y : Str} {px py : Pos} {kk : Nat} {vs : List Nat} (hN : X.N.Nodup) (h : i ∈ vs := by decide) (h' : j ∈ vs := by decide) (hc : X.calm = true := by rfl) (hi : X.N[i]? = some x := by rfl) (hj : X.N[j]? = some y := by rfl) (hx : Loc X.env.scope x := by first | exact .inl rfl | exact .inr rfl) (hy : Loc X.env.scope y := by first | exact .inl rfl | exact .inr rfl)
    (hf : X.fn x = true ∨ X.env.scope.names.lookup x = some .local := by first | exact .inl rfl | exact .inr rfl) (hf' : X.fn y = true ∨ X.env.scope.names.lookup y = some .local := by first | exact .inl rfl | exact .inr rfl) : SG X cl (.Tuple [.Name x px, .Name y py] kk pos) (gTup X.K 2 (gCons (gName i) (gCons (gName j) gNil))) (tgPair i j) vs :=
  ⟨pg_tup hc (pgs_cons (pg_name hN hi hx hf) (pgs_cons (pg_name hN hj hy hf') pgs_nil)), sem_pair h h'⟩
/-- target = value, by any target -/
@[simp] def mAsg (t : TGT) (m : ME) : MS := fun δ μ => match m δ μ with
  | some (r, μ1) => match toD r with
    | some d => match t d δ with
      | some δ1 => some (.nx δ1 μ1)
      | none => none
    | none => none
  | none => none
theorem ss_asg {tg : Expr} {g : TG} {t : TGT} {vs : List Nat} (he : SE X cl e m) (hg : SG X cl tg g t vs) (hs : swapsWithSole [tg] e pos.line X.env = pure false := by rfl) (hw : swappedStores [tg] e X.env = pure none := by rfl)
    (h1 : (assignEach [tg] X.env).map (·.2) = [assign tg X.env] := by rfl) : SS X cl (.Assign [tg] e pos) (mAsg t m) := by
  refine PS.weak (ps_asg he hg.1 hs hw h1) fun E σ H ⟨F, α, δ, μ, fl, C, Ee, hm, k⟩ => ?_
  unfold mAsg at hm
  split at hm
  · rename_i r μ1 h1
    split at hm
    · rename_i d h2
      split at hm
      · rename_i δ1 h3
        cases hm
        refine ⟨F, α, δ, μ, r, μ1, C, Ee, h1, fun v F1 H1 e1 c1 q1 => ?_⟩
        obtain ⟨F2, e2, c2, q2⟩ := freeze e1 c1 q1
        rw [froz_dat h2] at q2
        exact hg.2 F2 α σ δ δ1 H1 v d _ c2.sub (Ee.step e2) q2 h3 fun σ' en _ => k F2 α σ' H1 e2 c2 en
      · cases hm
    · cases hm
  · cases hm
end
end DL
set_option Elab.async false
set_option linter.all false
set_option maxRecDepth 100000
set_option maxHeartbeats 1000000
namespace DL
open PySem PySem.Spec PyProof.Rows L2
/-! ### plain data compared -/
mutual
def beqD : D → D → Bool
  | .non, .non => true
  | .bl a, .bl b => a == b
  | .int a, .int b => a == b
  | .str a, .str b => decide (a = b)
  | .tup a, .tup b => beqDs a b
  | .lst a, .lst b => beqDs a b
  | .scr a, .scr b => decide (a = b)
  | .ins c a, .ins d b => c == d && beqDs a b
  | _, _ => false
def beqDs : List D → List D → Bool
  | [], [] => true
  | a :: as, b :: bs => beqD a b && beqDs as bs
  | _, _ => false
end
mutual
theorem beqD_eq : ∀ {a b : D}, beqD a b = true → a = b
  | .non, b, h => by cases b <;> first | rfl | (simp [beqD] at h)
  | .bl x, b, h => by cases b <;> first | (simp [beqD] at h; subst h; rfl) | (simp [beqD] at h)
  | .int x, b, h => by cases b <;> first | (simp [beqD] at h; subst h; rfl) | (simp [beqD] at h)
  | .str x, b, h => by cases b <;> first | (simp [beqD] at h; subst h; rfl) | (simp [beqD] at h)
  | .scr x, b, h => by cases b <;> first | (simp [beqD] at h; subst h; rfl) | (simp [beqD] at h)
  | .tup xs, b, h => by
    cases b with
    | tup ys => rw [beqDs_eq (a := xs) (b := ys) (by simpa [beqD] using h)]
    | _ => simp [beqD] at h
  | .lst xs, b, h => by
    cases b with
    | lst ys => rw [beqDs_eq (a := xs) (b := ys) (by simpa [beqD] using h)]
    | _ => simp [beqD] at h
  | .ins c xs, b, h => by
    cases b with
    | ins d ys =>
      simp [beqD] at h
      rw [beqDs_eq (a := xs) (b := ys) h.2, h.1]
    | _ => simp [beqD] at h
theorem beqDs_eq : ∀ {a b : List D}, beqDs a b = true → a = b
  | [], [], _ => rfl
  | [], _ :: _, h => by simp [beqDs] at h
  | _ :: _, [], h => by simp [beqDs] at h
  | a :: as, b :: bs, h => by
    simp [beqDs] at h
    rw [beqD_eq h.1, beqDs_eq h.2]
end
mutual
theorem beqD_refl : ∀ a : D, beqD a a = true
  | .non => rfl
  | .bl _ => by simp [beqD]
  | .int _ => by simp [beqD]
  | .str _ => by simp [beqD]
  | .scr _ => by simp [beqD]
  | .tup xs => by simp [beqD, beqDs_refl xs]
  | .lst xs => by simp [beqD, beqDs_refl xs]
  | .ins c xs => by simp [beqD, beqDs_refl xs]
theorem beqDs_refl : ∀ a : List D, beqDs a a = true
  | [] => rfl
  | a :: as => by simp [beqDs, beqD_refl a, beqDs_refl as]
end
/-! ### what is walked -/
abbrev MI := Sl → Mu → Option (List D × (Mu → Bool) × Mu)
def WalkD (K : PySem.W.Frag) (cl : Nat → Addr) (F : Hp) (α : List Addr) (J : It) (xs : List D) (gd : Mu → Bool) : Prop := ∃ (G : Hp → Prop) (Y : Nat → Hp → V → Hp → Prop), Walk J xs.length G Y ∧
  (∀ F1 α1 μ1 H1, Same F F1 → (∃ e, α1 = α ++ e) → Conc K cl F1 α1 μ1 H1 → gd μ1 = true → G H1) ∧
  (∀ (i : Nat) d F1 α1 μ1 H1 x H2, xs[i]? = some d → Same F F1 → (∃ e, α1 = α ++ e) → Conc K cl F1 α1 μ1 H1 → gd μ1 = true → Y i H1 x H2 → ∃ F2, Evo F1 α1 H1 F2 α1 H2 ∧ Conc K cl F2 α1 μ1 H2 ∧ Rep K cl F2 x d)
def tmi (K : PySem.W.Frag) (cl : Nat → Addr) (m : MI) : TI := fun σ H Q => ∃ F α δ μ xs gd μ', Conc K cl F α μ H ∧ EnvOk K cl F α σ δ ∧ m δ μ = some (xs, gd, μ') ∧
  ∀ J F' H', Evo F α H F' α H' → Conc K cl F' α μ' H' → WalkD K cl F' α J xs gd → Q J H'
abbrev SI (X : Cx) (cl : Nat → Addr) (tg e : Expr) (m : MI) : Prop := PI X tg e (tmi X.K cl m)
theorem PI.weak {X : Cx} {tg e : Expr} {t t' : TI} (h : PI X tg e t) (k : ∀ σ H Q, t' σ H Q → t σ H Q) : PI X tg e t' := ⟨fun pins s σ H Q I hw => h.run pins s σ H Q I (k σ H Q hw)⟩
section
variable {X : Cx} {cl : Nat → Addr} {e a b c tg : Expr} {es : List Expr} {m ma mb mc : ME} {pos p : Pos} {K : PySem.W.Frag} {mt : MT} {m1 m2 : MS} {st : Stmt} {sts : List Stmt} {ms : MA}
abbrev yes : Mu → Bool := fun _ => true
/-- over a list, a tuple that stays, or a cell (as long as it is what it was) -/
@[simp] def mItL (m : ME) : MI := fun δ μ => match m δ μ with
  | some (.cel k, μ1) => match μ1[k]? with
    | some xs => some (xs, (fun μ2 => match μ2[k]? with
      | some ys => beqDs ys xs
      | none => false), μ1)
    | none => none
  | some (r, μ1) => match sqOf (froz r) μ1 with
    | some (.l xs) => some (xs, yes, μ1)
    | _ => none
  | none => none
@[simp] def mItT (m : ME) : MI := fun δ μ => match m δ μ with
  | some (r, μ1) => match sqOf (froz r) μ1 with
    | some (.t xs) => some (xs, yes, μ1)
    | _ => none
  | none => none
theorem walkd_at {F : Hp} {α : List Addr} {J : It} {xs : List D} {vs : List V} {G : Hp → Prop} (w : Walk J vs.length G (YAt vs)) (h : Reps K cl F vs xs) (hG : ∀ F1 H1, Same F F1 → Same F1 H1 → G H1) : WalkD K cl F α J xs yes := by
  refine ⟨G, YAt vs, by rw [← h.length]; exact w, fun F1 α1 μ1 H1 sm _ c _ => hG F1 H1 sm c.sub, fun i d F1 α1 μ1 H1 x H2 hd sm _ c _ y => ?_⟩
  obtain ⟨rfl, y⟩ := y
  obtain ⟨v, q1, q2⟩ := h.get hd
  rw [y] at q1
  cases q1
  exact ⟨F1, Evo.refl, c, q2.mono sm⟩
/-- the place of what is frozen -/
theorem sqFz {F H H0 : Hp} {α : List Addr} {μ : Mu} {x : V} {r : R} {q : Sq} (C : Conc K cl F α μ H) (h : RepR K cl H0 F α H x (froz r)) (hc : ∀ k, r ≠ .cel k) (e : sqOf (froz r) μ = some q) : ∃ a vs, x = .ref a ∧ Reps K cl F vs q.all ∧ q.At K F a vs := by
  cases r with
  | no => cases h
  | cel k => exact absurd rfl (hc k)
  | fr ys =>
    cases e
    cases h with
    | lst h1 h2 => exact ⟨_, _, rfl, h2, SqL.of h1⟩
  | dat d =>
    cases d with
    | tup ys =>
      cases e
      cases h with
      | tup h1 h2 => exact ⟨_, _, rfl, h2, h1⟩
    | lst ys =>
      cases e
      cases h with
      | lst h1 h2 => exact ⟨_, _, rfl, h2, SqL.of h1⟩
    | scr ns =>
      cases e
      cases h with
      | scr h1 => exact ⟨_, _, rfl, Reps.ints ns, h1⟩
    | _ => cases e
theorem si_list (h : SE X cl e m) : SI X cl tg e (mItL m) := by
  refine PI.weak (pi_list h) fun σ H Q ⟨F, α, δ, μ, xs, gd, μ', C, Ee, hm, k⟩ => ?_
  unfold mItL at hm
  split at hm
  · rename_i kk μ1 h1
    split at hm
    · rename_i ys h2
      cases hm
      refine ⟨F, α, δ, μ, _, μ', C, Ee, h1, fun v F1 H1 e1 c1 q1 => ?_⟩
      obtain ⟨ad, q2, rfl⟩ := q1
      obtain ⟨us, q3, q4⟩ := c1.cell kk ad xs q2 h2
      refine ⟨ad, rfl, ⟨us, SqL.of q3⟩, k _ F1 H1 e1 c1 ⟨fun H2 => ∃ ws, ws.length = xs.length ∧ SqL X.K H2 ad ws, fun i H2 x H3 => H3 = H2 ∧ ∀ ws, SqL X.K H2 ad ws → ws[i]? = some x, ⟨fun i H2 hi ⟨ws, l, hs⟩ => ?_, fun H2 ⟨ws, l, hs⟩ => ?_, fun i H2 x H3 hi ⟨ws, l, hs⟩ y => ?_⟩, fun F2 α2 μ2 H2 sm ex c2 g2 => ?_, fun i d F2 α2 μ2 H2 x H3 hd sm ex c2 g2 y => ?_⟩⟩
      · exact ⟨ws, ws[i]'(by omega), hs, List.getElem?_eq_getElem _⟩
      · exact ⟨ws, hs, by omega⟩
      · exact y
      · simp only at g2
        split at g2
        · rename_i zs e2
          have e3 := beqDs_eq g2
          subst e3
          obtain ⟨x, rfl⟩ := ex
          obtain ⟨ws, g3, g4⟩ := c2.cell kk ad zs (by rw [List.getElem?_append_left (List.getElem?_eq_some_iff.mp q2).1]; exact q2) e2
          exact ⟨ws, g4.length, SqL.of g3⟩
        · cases g2
      · simp only at g2
        split at g2
        · rename_i zs e2
          have e3 := beqDs_eq g2
          subst e3
          obtain ⟨x', rfl⟩ := ex
          obtain ⟨rfl, hx'⟩ := y
          obtain ⟨ws, g3, g4⟩ := c2.cell kk ad zs (by rw [List.getElem?_append_left (List.getElem?_eq_some_iff.mp q2).1]; exact q2) e2
          obtain ⟨v, g5, g6⟩ := g4.get hd
          have hx := hx' ws (SqL.of g3)
          rw [g5] at hx
          cases hx
          exact ⟨F2, Evo.refl, c2, g6⟩
        · cases g2
    · cases hm
  · rename_i r μ1 hnc h1
    split at hm
    · rename_i ys h2
      cases hm
      refine ⟨F, α, δ, μ, _, μ', C, Ee, h1, fun v F1 H1 e1 c1 q1 => ?_⟩
      obtain ⟨F2, e2, c2, r2⟩ := freeze e1 c1 q1
      obtain ⟨ad, vs, rfl, q2, q3⟩ := sqFz c2 r2 (fun kk z => hnc kk z) h2
      have q3' : SqL X.K F2 ad vs := q3
      exact ⟨ad, rfl, ⟨vs, c2.sub.seq q3'⟩, k _ F2 H1 e2 c2 (walkd_at walk_list q2 fun F3 H3 s1 s2 => (s1.trans s2).seq q3')⟩
    · cases hm
  · cases hm
theorem si_tup (h : SE X cl e m) : SI X cl tg e (mItT m) := by
  refine PI.weak (pi_tup h) fun σ H Q ⟨F, α, δ, μ, xs, gd, μ', C, Ee, hm, k⟩ => ?_
  unfold mItT at hm
  split at hm
  · rename_i r μ1 h1
    split at hm
    · rename_i ys h2
      cases hm
      refine ⟨F, α, δ, μ, _, μ', C, Ee, h1, fun v F1 H1 e1 c1 q1 => ?_⟩
      obtain ⟨F2, e2, c2, r2⟩ := freeze e1 c1 q1
      have hnc : ∀ kk, r ≠ .cel kk := fun kk z => by
        subst z
        simp only [froz, sqOf] at h2
        cases e7 : lstOf (.cel kk) μ' with
        | none =>
          rw [e7] at h2
          cases h2
        | some w =>
          rw [e7] at h2
          cases h2
      obtain ⟨ad, vs, rfl, q2, q3⟩ := sqFz c2 r2 hnc h2
      have q3' : SqT X.K F2 ad vs := q3
      exact ⟨ad, rfl, ⟨vs, Same.sqT c2.sub q3'⟩, k _ F2 H1 e2 c2 (walkd_at walk_tup q2 fun F3 H3 s1 s2 => Same.sqT (s1.trans s2) q3')⟩
    · cases hm
  · cases hm
end
end DL
set_option Elab.async false
set_option linter.all false
set_option maxRecDepth 100000
set_option maxHeartbeats 1000000
namespace DL
open PySem PySem.Spec PyProof.Rows L2
section
variable {X : Cx} {cl : Nat → Addr} {e a b c tg : Expr} {es : List Expr} {m ma mb mc : ME} {pos p : Pos} {K : PySem.W.Frag} {mt : MT} {m1 m2 : MS} {st : Stmt} {sts : List Stmt} {ms : MA}
/-! ### range -/
theorem walkd_range {F : Hp} {α : List Addr} {lo hi : Int} : WalkD K cl F α (Itr lo (hi - lo).toNat) (rgD lo hi) yes := by
  refine ⟨fun _ => True, YFn fun i => .int (lo + i), ?_, fun _ _ _ _ _ _ _ _ => trivial, fun i d F1 α1 μ1 H1 x H2 hd sm _ c _ y => ?_⟩
  · have : (rgD lo hi).length = (hi - lo).toNat := by unfold rgD; rw [List.length_map, List.length_range]
    rw [this]
    exact walk_range
  · obtain ⟨rfl, rfl⟩ := y
    refine ⟨F1, Evo.refl, c, ?_⟩
    unfold rgD at hd
    rw [List.getElem?_map] at hd
    obtain ⟨j, hj, rfl⟩ := Option.map_eq_some_iff.mp hd
    obtain ⟨hlt, hj2⟩ := List.getElem?_eq_some_iff.mp hj
    rw [List.getElem_range] at hj2
    subst hj2
    exact .int _
@[simp] def mItR1 (ms : MA) : MI := fun δ μ => match ms δ μ with
  | some ([.dat (.int j)], μ1) => if -(2 ^ 62) ≤ j ∧ j < 2 ^ 62 then some (rgD 0 j, yes, μ1) else none
  | _ => none
@[simp] def mItR2 (ms : MA) : MI := fun δ μ => match ms δ μ with
  | some ([.dat (.int i), .dat (.int j)], μ1) => if -(2 ^ 62) ≤ i ∧ i < 2 ^ 62 ∧ -(2 ^ 62) ≤ j ∧ j < 2 ^ 62 then some (rgD i j, yes, μ1) else none
  | _ => none
theorem si_range1 (hm : X.mg "range" = none) (ha : SA X cl [a] ms) (hg : Gl X "range" := by rfl) (hs : starEach [a] X.env = [(false, eval a X.env)] := by rfl) : SI X cl tg (.Call (.Name "range" p) [a] [] pos) (mItR1 ms) := by
  refine PI.weak (pi_range1 hg hm ha hs) fun σ H Q ⟨F, α, δ, μ, xs, gd, μ', C, Ee, hm, k⟩ => ?_
  unfold mItR1 at hm
  split at hm
  · rename_i j μ1 h1
    split at hm
    · rename_i h2
      cases hm
      refine ⟨F, α, δ, μ, _, μ', C, Ee, h1, fun vs F1 H1 e1 c1 q1 => ?_⟩
      obtain ⟨v, rfl, q2⟩ := args1 q1
      refine ⟨j, by rw [rep_int q2], h2.1, h2.2, ?_⟩
      have := k (Itr 0 (j - 0).toNat) F1 H1 e1 c1 walkd_range
      rw [Int.sub_zero] at this
      exact this
    · cases hm
  · cases hm
theorem si_range2 (hm : X.mg "range" = none) (ha : SA X cl [a, b] ms) (hg : Gl X "range" := by rfl) (hs : starEach [a, b] X.env = [(false, eval a X.env), (false, eval b X.env)] := by rfl) (hs2 : starEach [b] X.env = [(false, eval b X.env)] := by rfl) : SI X cl tg (.Call (.Name "range" p) [a, b] [] pos) (mItR2 ms) := by
  refine PI.weak (pi_range2 hg hm ha hs hs2) fun σ H Q ⟨F, α, δ, μ, xs, gd, μ', C, Ee, hm, k⟩ => ?_
  unfold mItR2 at hm
  split at hm
  · rename_i i j μ1 h1
    split at hm
    · rename_i h2
      cases hm
      refine ⟨F, α, δ, μ, _, μ', C, Ee, h1, fun vs F1 H1 e1 c1 q1 => ?_⟩
      obtain ⟨v, w, rfl, q2, q3⟩ := args2 q1
      exact ⟨i, j, by rw [rep_int q2, rep_int q3], h2, k _ F1 H1 e1 c1 walkd_range⟩
    · cases hm
  · cases hm
/-! ### pairs -/
theorem Conc.pair {F H : Hp} {α : List Addr} {μ : Mu} {T : Addr} {v w : V} {x y : D} (C : Conc K cl F α μ H) (hT : H T = none) (h1 : Rep K cl F v x) (h2 : Rep K cl F w y) :
    ∃ F2, Evo F α H F2 α (upd H T (.tup [v, w])) ∧ Conc K cl F2 α μ (upd H T (.tup [v, w])) ∧ Rep K cl F2 (.ref T) (.tup [x, y]) := by
  obtain ⟨e2, c2⟩ := C.new (o := .tup [v, w]) hT
  exact ⟨_, e2, c2, .tup (SqT.of upd_same) (.cons (h1.mono e2.ff) (.cons (h2.mono e2.ff) .nil))⟩
def pairsD : List D → List D → List D
  | x :: xs, y :: ys => .tup [x, y] :: pairsD xs ys
  | _, _ => []
theorem pairsD_len : ∀ xs ys : List D, (pairsD xs ys).length = min xs.length ys.length
  | [], [] => rfl
  | [], _ :: _ => rfl
  | _ :: _, [] => by simp [pairsD]
  | x :: xs, y :: ys => by simp [pairsD, pairsD_len xs ys]
theorem pairsD_get : ∀ {xs ys : List D} {i : Nat} {d : D}, (pairsD xs ys)[i]? = some d → ∃ x y, xs[i]? = some x ∧ ys[i]? = some y ∧ d = .tup [x, y]
  | [], _, _, _, h => by simp [pairsD] at h
  | _ :: _, [], _, _, h => by simp [pairsD] at h
  | x :: xs, y :: ys, 0, d, h => by
    simp [pairsD] at h
    exact ⟨x, y, rfl, rfl, h.symm⟩
  | x :: xs, y :: ys, i + 1, d, h => by
    obtain ⟨u, w, h1, h2, h3⟩ := pairsD_get (xs := xs) (ys := ys) (i := i) (d := d) (by simpa [pairsD] using h)
    exact ⟨u, w, by simpa using h1, by simpa using h2, h3⟩
theorem walk_zipT {K : PySem.W.Frag} {a b : Addr} {xs ys : List V} {n : Nat} (hn : n = min xs.length ys.length) : Walk (RZ.ItzT K a b) n (fun H => SqT K H a xs ∧ SqT K H b ys) (YPair (fun i => xs[i]?) (fun i => ys[i]?)) := by
  subst hn
  refine ⟨fun i H hi ⟨h1, h2⟩ => ⟨xs, ys, xs[i]'(by omega), ys[i]'(by omega), h1, h2, List.getElem?_eq_getElem _, List.getElem?_eq_getElem _⟩, fun H ⟨h1, h2⟩ => ⟨xs, ys, h1, h2, by omega⟩, fun i H v H' _ ⟨h1, h2⟩ y => ?_⟩
  obtain ⟨T, x1, x2, e1, e2, e3, g1, g2⟩ := y
  exact ⟨T, x1, x2, e1, e2, e3, g1 xs h1, g2 ys h2⟩
@[simp] def mItZ (ms : MA) : MI := fun δ μ => match ms δ μ with
  | some ([x, y], μ1) => match x, y with
    | .dat (.lst xs), .dat (.lst ys) => some (pairsD xs ys, yes, μ1)
    | .dat (.tup xs), .dat (.tup ys) => some (pairsD xs ys, yes, μ1)
    | _, _ => none
  | _ => none
theorem walkd_pair {F : Hp} {α : List Addr} {J : It} {xs ys : List D} {vs ws : List V} {G : Hp → Prop} (w : Walk J (min vs.length ws.length) G (YPair (fun i => vs[i]?) (fun i => ws[i]?))) (h : Reps K cl F vs xs) (h' : Reps K cl F ws ys) (hG : ∀ F1 H1, Same F F1 → Same F1 H1 → G H1) : WalkD K cl F α J (pairsD xs ys) yes := by
  refine ⟨G, _, by rw [pairsD_len, ← h.length, ← h'.length]; exact w, fun F1 α1 μ1 H1 sm _ c _ => hG F1 H1 sm c.sub, fun i d F1 α1 μ1 H1 x H2 hd sm _ c _ y => ?_⟩
  obtain ⟨T, v1, v2, rfl, hT, rfl, g1, g2⟩ := y
  obtain ⟨d1, d2, k1, k2, rfl⟩ := pairsD_get hd
  obtain ⟨u1, l1, r1⟩ := h.get k1
  obtain ⟨u2, l2, r2⟩ := h'.get k2
  have g1' : vs[i]? = some v1 := g1
  have g2' : ws[i]? = some v2 := g2
  rw [l1] at g1'
  rw [l2] at g2'
  cases g1'
  cases g2'
  exact c.pair hT (r1.mono sm) (r2.mono sm)
theorem si_zip {elts : List Expr} {kk : Nat} {tpos : Pos} (hm : X.mg "zip" = none) (ha : SA X cl [a, b] ms) (hg : Gl X "zip" := by rfl) (hs : starEach [a, b] X.env = (false, eval a X.env) :: starEach [b] X.env := by rfl) (hpl : (backTo pos (starEach [b] X.env)).any (·.1) = false := by rfl) :
    SI X cl (.Tuple elts kk tpos) (.Call (.Name "zip" p) [a, b] [] pos) (mItZ ms) := by
  refine PI.weak (RZ.pi_zipA hg hm ha hs hpl) fun σ H Q ⟨F, α, δ, μ, xs, gd, μ', C, Ee, hm, k⟩ => ?_
  unfold mItZ at hm
  split at hm
  · rename_i r1 r2 μ1 h1
    split at hm
    · rename_i ys zs
      cases hm
      refine ⟨F, α, δ, μ, _, μ', C, Ee, h1, fun vs F1 H1 e1 c1 q1 => ?_⟩
      obtain ⟨v, w, rfl, q2, q3⟩ := args2 q1
      cases q2 with
      | lst g1 g2 =>
        cases q3 with
        | lst g3 g4 =>
          exact ⟨_, _, _, _, rfl, .inl ⟨SqL.of (c1.sub _ _ g1), SqL.of (c1.sub _ _ g3), k _ F1 H1 e1 c1 (walkd_pair (walk_zip rfl) g2 g4 fun F2 H2 s1 s2 => ⟨SqL.of ((s1.trans s2) _ _ g1), SqL.of ((s1.trans s2) _ _ g3)⟩)⟩⟩
    · rename_i ys zs
      cases hm
      refine ⟨F, α, δ, μ, _, μ', C, Ee, h1, fun vs F1 H1 e1 c1 q1 => ?_⟩
      obtain ⟨v, w, rfl, q2, q3⟩ := args2 q1
      cases q2 with
      | tup g1 g2 =>
        cases q3 with
        | tup g3 g4 =>
          exact ⟨_, _, _, _, rfl, .inr ⟨Same.sqT c1.sub g1, Same.sqT c1.sub g3, k _ F1 H1 e1 c1 (walkd_pair (walk_zipT rfl) g2 g4 fun F2 H2 s1 s2 => ⟨Same.sqT (s1.trans s2) g1, Same.sqT (s1.trans s2) g3⟩)⟩⟩
    · cases hm
  · cases hm
/-! enumerate of a list -/
def enumD : Nat → List D → List D
  | _, [] => []
  | i, x :: xs => .tup [.int (i : Nat), x] :: enumD (i + 1) xs
theorem enumD_len : ∀ (i : Nat) (xs : List D), (enumD i xs).length = xs.length
  | _, [] => rfl
  | i, x :: xs => by simp [enumD, enumD_len (i + 1) xs]
theorem enumD_get : ∀ {xs : List D} {j i : Nat} {d : D}, (enumD j xs)[i]? = some d → ∃ x, xs[i]? = some x ∧ d = .tup [.int ((j + i : Nat) : Int), x]
  | [], _, _, _, h => by simp [enumD] at h
  | x :: xs, j, 0, d, h => by
    simp [enumD] at h
    exact ⟨x, rfl, h.symm⟩
  | x :: xs, j, i + 1, d, h => by
    obtain ⟨u, h1, h2⟩ := enumD_get (xs := xs) (j := j + 1) (i := i) (d := d) (by simpa [enumD] using h)
    exact ⟨u, by simpa using h1, by rw [h2, show j + 1 + i = j + (i + 1) by omega]⟩
@[simp] def mItE (ms : MA) : MI := fun δ μ => match ms δ μ with
  | some ([.dat (.lst xs)], μ1) => some (enumD 0 xs, yes, μ1)
  | _ => none
theorem si_enum {elts : List Expr} {kk : Nat} {tpos : Pos} (hm : X.mg "enumerate" = none) (ha : SA X cl [a] ms) (hg : Gl X "enumerate" := by rfl) (hs : starEach [a] X.env = [(false, eval a X.env)] := by rfl) :
    SI X cl (.Tuple elts kk tpos) (.Call (.Name "enumerate" p) [a] [] pos) (mItE ms) := by
  refine PI.weak (pi_enum hg hm ha hs) fun σ H Q ⟨F, α, δ, μ, xs, gd, μ', C, Ee, hm, k⟩ => ?_
  unfold mItE at hm
  split at hm
  · rename_i ys μ1 h1
    cases hm
    refine ⟨F, α, δ, μ, _, μ', C, Ee, h1, fun vs F1 H1 e1 c1 q1 => ?_⟩
    obtain ⟨v, rfl, q2⟩ := args1 q1
    cases q2 with
    | @lst ad us ds g1 g2 =>
      refine ⟨ad, us, rfl, SqL.of (c1.sub _ _ g1), k _ F1 H1 e1 c1 ⟨fun H => SqL X.K H ad us, YPair (fun i => some (.int (i : Nat))) (fun i => us[i]?), ?_, fun F2 α2 μ2 H2 s1 _ c2 _ => SqL.of ((s1.trans c2.sub) _ _ g1), fun i d F2 α2 μ2 H2 x H3 hd sm _ c _ y => ?_⟩⟩
      · rw [enumD_len, ← g2.length]
        exact walk_enum
      · obtain ⟨T, v1, v2, rfl, hT, rfl, l1, l2⟩ := y
        obtain ⟨d2, k2, rfl⟩ := enumD_get hd
        obtain ⟨u2, l3, r2⟩ := g2.get k2
        have l2' : us[i]? = some v2 := l2
        rw [l3] at l2'
        cases l2'
        cases l1
        rw [Nat.zero_add]
        exact c.pair hT (.int _) (r2.mono sm)
  · cases hm
/-! ### for -/
def loop (gd : Mu → Bool) (t : TGT) (mb : MS) : List D → Sl → Mu → Option Flo
  | [], δ, μ => if gd μ = true then some (.nx δ μ) else none
  | x :: xs, δ, μ => if gd μ = true then match t x δ with
      | none => none
      | some δ1 => match mb δ1 μ with
        | some (.nx δ2 μ2) => loop gd t mb xs δ2 μ2
        | some (.ct δ2 μ2) => loop gd t mb xs δ2 μ2
        | some (.bk δ2 μ2) => some (.nx δ2 μ2)
        | some (.rt r μ2) => some (.rt r μ2)
        | none => none
    else none
@[simp] def mFor (mi : MI) (t : TGT) (mb : MS) : MS := fun δ μ => match mi δ μ with
  | none => none
  | some (xs, gd, μ1) => loop gd t mb xs δ μ1
theorem ss_for {mi : MI} {t : TGT} {g : TG} {vs : List Nat} (hi : SI X cl tg e mi) (hg : SG X cl tg g t vs) (hb : SSs X cl sts m1) (hp : PassesOwn (model X.prog X.w) X.A X.env X.xe := by exact PassesOwn.never) (hc : X.calm = true := by rfl) (hs : ∀ x, foldedSetIterable e X.env x = pure x := by intro _; rfl) :
    SS X cl (.For tg e sts [] pos) (mFor mi t m1) := by
  refine PS.weak (ps_for hp hc hi hg.1 hb hs) fun E σ H ⟨F, α, δ, μ, fl, C, Ee, hm, k⟩ => ?_
  unfold mFor at hm
  split at hm
  · cases hm
  rename_i xs gd μ1 h1
  refine ⟨F, α, δ, μ, xs, gd, μ1, C, Ee, h1, fun J F1 H1 e1 c1 W => ?_⟩
  obtain ⟨G, Y, w, hG, hY⟩ := W
  have gdOf : ∀ {i : Nat} {δ2 : Sl} {μ2 : Mu}, loop gd t m1 (xs.drop i) δ2 μ2 = some fl → gd μ2 = true := by
    intro i δ2 μ2 h
    cases e : xs.drop i with
    | nil =>
      rw [e] at h
      unfold loop at h
      split at h
      · rename_i z
        exact z
      · cases h
    | cons x r =>
      rw [e] at h
      unfold loop at h
      split at h
      · rename_i z
        exact z
      · cases h
  refine for_it w (fun i σ2 H2 => ∃ F2 α2 δ2 μ2, Evo F1 α H1 F2 α2 H2 ∧ Conc X.K cl F2 α2 μ2 H2 ∧ EnvOk X.K cl F2 α2 σ2 δ2 ∧ loop gd t m1 (xs.drop i) δ2 μ2 = some fl) ⟨F1, α, δ, μ1, Evo.refl, c1, Ee.step e1, hm⟩ ?_ ?_ ?_
  · rintro i σ2 H2 _ ⟨F2, α2, δ2, μ2, e2, c2, en2, h2⟩
    exact hG F2 α2 μ2 H2 e2.ff e2.ext c2 (gdOf h2)
  · rintro i x σ2 H2 H3 hi ⟨F2, α2, δ2, μ2, e2, c2, en2, h2⟩ y
    have gt := gdOf h2
    rw [List.drop_eq_getElem_cons hi] at h2
    unfold loop at h2
    rw [if_pos gt] at h2
    split at h2
    · cases h2
    rename_i δ3 h3
    obtain ⟨F3, e3, c3, r3⟩ := hY i xs[i] F2 α2 μ2 H2 x H3 (List.getElem?_eq_getElem hi) e2.ff e2.ext c2 gt y
    refine hg.2 F3 α2 σ2 δ2 δ3 H3 x xs[i] _ c3.sub (en2.step e3) r3 h3 fun σ3 en3 _ => ?_
    have fin : ∀ {δ4 : Sl} {μ4 : Mu}, loop gd t m1 (xs.drop (i + 1)) δ4 μ4 = some fl → ∀ F4 α4 σ4 H4, Evo F3 α2 H3 F4 α4 H4 → Conc X.K cl F4 α4 μ4 H4 → EnvOk X.K cl F4 α4 σ4 δ4 → ∃ F5 α5 δ5 μ5, Evo F1 α H1 F5 α5 H4 ∧ Conc X.K cl F5 α5 μ5 H4 ∧ EnvOk X.K cl F5 α5 σ4 δ5 ∧ loop gd t m1 (xs.drop (i + 1)) δ5 μ5 = some fl :=
      fun h F4 α4 σ4 H4 e4 c4 en4 => ⟨F4, α4, _, _, e2.trans (e3.trans e4), c4, en4, h⟩
    split at h2
    · rename_i δ4 μ4 h4
      exact ⟨F3, α2, δ3, μ2, _, c3, en3, h4, fun F4 α4 σ4 H4 e4 c4 en4 => fin h2 F4 α4 σ4 H4 e4 c4 en4⟩
    · rename_i δ4 μ4 h4
      exact ⟨F3, α2, δ3, μ2, _, c3, en3, h4, fun F4 α4 σ4 H4 e4 c4 en4 => fin h2 F4 α4 σ4 H4 e4 c4 en4⟩
    · rename_i δ4 μ4 h4
      cases h2
      exact ⟨F3, α2, δ3, μ2, _, c3, en3, h4, fun F4 α4 σ4 H4 e4 c4 en4 => k F4 α4 σ4 H4 (e1.trans (e2.trans (e3.trans e4))) c4 en4⟩
    · rename_i r4 μ4 h4
      cases h2
      exact ⟨F3, α2, δ3, μ2, _, c3, en3, h4, fun v F4 α4 H4 e4 c4 r5 => k v F4 α4 H4 (e1.trans (e2.trans (e3.trans e4))) c4 (r5.back fun p hp => e1.dom p (e2.dom p (e3.dom p hp)))⟩
    · cases h2
  · rintro σ2 H2 ⟨F2, α2, δ2, μ2, e2, c2, en2, h2⟩
    rw [List.drop_length] at h2
    unfold loop at h2
    split at h2
    · cases h2
      exact k F2 α2 σ2 H2 (e1.trans e2) c2 en2
    · cases h2
/-! ### while -/
def wh (mt : MT) (mb : MS) : Nat → Sl → Mu → Option Flo
  | 0, _, _ => none
  | n + 1, δ, μ => match mt δ μ with
    | none => none
    | some (false, μ1) => some (.nx δ μ1)
    | some (true, μ1) => match mb δ μ1 with
      | some (.nx δ2 μ2) => wh mt mb n δ2 μ2
      | some (.ct δ2 μ2) => wh mt mb n δ2 μ2
      | some (.bk δ2 μ2) => some (.nx δ2 μ2)
      | some (.rt r μ2) => some (.rt r μ2)
      | none => none
theorem ss_while {n : Nat} (hc : ST X cl c mt) (hb : SSs X cl sts m1) (hp : PassesOwn (model X.prog X.w) X.A X.env X.xe := by exact PassesOwn.never) : SS X cl (.While c sts [] pos) (wh mt m1 n) := by
  refine PS.weak (ps_while hp hc hb) fun E σ H ⟨F, α, δ, μ, fl, C, Ee, hm, k⟩ => ?_
  refine ⟨fun j σ2 H2 => ∃ F2 α2 δ2 μ2, Evo F α H F2 α2 H2 ∧ Conc X.K cl F2 α2 μ2 H2 ∧ EnvOk X.K cl F2 α2 σ2 δ2 ∧ wh mt m1 j δ2 μ2 = some fl, ⟨n, F, α, δ, μ, Evo.refl, C, Ee, hm⟩, ?_⟩
  rintro j σ2 H2 ⟨F2, α2, δ2, μ2, e2, c2, en2, h2⟩
  cases j with
  | zero => cases h2
  | succ j =>
    unfold wh at h2
    split at h2
    · cases h2
    · rename_i μ3 h3
      cases h2
      exact ⟨F2, α2, δ2, μ2, _, μ3, c2, en2, h3, fun F3 H3 e3 c3 => iteF (k F3 α2 σ2 H3 (e2.trans e3) c3 (en2.step e3))⟩
    · rename_i μ3 h3
      refine ⟨F2, α2, δ2, μ2, _, μ3, c2, en2, h3, fun F3 H3 e3 c3 => iteT ⟨fun σ' H' => ∃ m', m' < j + 1 ∧ ∃ F2 α2 δ2 μ2, Evo F α H F2 α2 H' ∧ Conc X.K cl F2 α2 μ2 H' ∧ EnvOk X.K cl F2 α2 σ' δ2 ∧ wh mt m1 m' δ2 μ2 = some fl, fun _ _ h => h, ?_⟩⟩
      split at h2
      · rename_i δ4 μ4 h4
        exact ⟨F3, α2, δ2, μ3, _, c3, en2.step e3, h4, fun F4 α4 σ4 H4 e4 c4 en4 => ⟨j, Nat.lt_succ_self j, F4, α4, δ4, μ4, e2.trans (e3.trans e4), c4, en4, h2⟩⟩
      · rename_i δ4 μ4 h4
        exact ⟨F3, α2, δ2, μ3, _, c3, en2.step e3, h4, fun F4 α4 σ4 H4 e4 c4 en4 => ⟨j, Nat.lt_succ_self j, F4, α4, δ4, μ4, e2.trans (e3.trans e4), c4, en4, h2⟩⟩
      · rename_i δ4 μ4 h4
        cases h2
        exact ⟨F3, α2, δ2, μ3, _, c3, en2.step e3, h4, fun F4 α4 σ4 H4 e4 c4 en4 => k F4 α4 σ4 H4 (e2.trans (e3.trans e4)) c4 en4⟩
      · rename_i r4 μ4 h4
        cases h2
        exact ⟨F3, α2, δ2, μ3, _, c3, en2.step e3, h4, fun v F4 α4 H4 e4 c4 r5 => k v F4 α4 H4 (e2.trans (e3.trans e4)) c4 (r5.back fun p hp => e2.dom p (e3.dom p hp))⟩
      · cases h2
end
end DL
set_option Elab.async false
set_option linter.all false
set_option maxRecDepth 100000
set_option maxHeartbeats 1000000
namespace DL
open PySem PySem.Spec PyProof.Rows L2
def lcLoop (gd : Mu → Bool) (t : TGT) (mt : MT) (me : ME) (δ : Sl) : List D → List D → Mu → Option (List D × Mu)
  | [], acc, μ => if gd μ = true then some (acc, μ) else none
  | x :: xs, acc, μ => if gd μ = true then match t x δ with
      | none => none
      | some δ1 => match mt δ1 μ with
        | none => none
        | some (false, μ1) => lcLoop gd t mt me δ xs acc μ1
        | some (true, μ1) => match me δ1 μ1 with
          | none => none
          | some (r, μ2) => match toD r with
            | none => none
            | some d => if acc.length < 100000 then lcLoop gd t mt me δ xs (acc ++ [d]) μ2 else none
    else none
@[simp] def wipeR (δ : Sl) : List Nat → Sl
  | [] => δ
  | v :: vs => (wipeR δ vs).set v .no
@[simp] def mLc (mi : MI) (t : TGT) (mt : MT) (me : ME) (vs : List Nat) : ME := fun δ μ => match mi δ μ with
  | none => none
  | some (xs, gd, μ1) => match lcLoop gd t mt me (wipeR δ vs) xs [] μ1 with
    | none => none
    | some (ys, μ2) => some (.fr ys, μ2)
@[simp] def mYes : MT := fun _ μ => some (true, μ)
section
variable {X : Cx} {cl : Nat → Addr} {e a b c tg : Expr} {es : List Expr} {m ma mb mc : ME} {pos p : Pos} {K : PySem.W.Frag} {mt : MT} {m1 m2 : MS} {st : Stmt} {sts : List Stmt} {ms : MA}
theorem env_wipe {F : Hp} {α : List Addr} {σ : L2.St} {δ : Sl} (h : EnvOk K cl F α σ δ) : ∀ vs : List Nat, EnvOk K cl F α (wipe σ vs) (wipeR δ vs)
  | [] => h
  | v :: vs => by
    have ih := env_wipe h vs
    unfold wipe wipeR
    refine ⟨by simp [ih.1], fun i d q => ?_, fun i k q => ?_⟩
    · by_cases hj : v = i
      · subst hj
        have hi : v < (wipeR δ vs).length := by
          have := (List.getElem?_eq_some_iff.mp q).1
          simpa using this
        rw [List.getElem?_set_self hi] at q
        cases q
      · rw [List.getElem?_set_ne hj] at q ⊢
        exact ih.2.1 i d q
    · by_cases hj : v = i
      · subst hj
        have hi : v < (wipeR δ vs).length := by
          have := (List.getElem?_eq_some_iff.mp q).1
          simpa using this
        rw [List.getElem?_set_self hi] at q
        cases q
      · rw [List.getElem?_set_ne hj] at q ⊢
        exact ih.2.2 i k q
theorem stt_nil : PTs X [] (tmt X.K cl mYes) := ⟨fun pins s σ H Q I h => pts_nil.run pins s σ H Q I (by
  obtain ⟨F, α, δ, μ, b, μ', C, Ee, hm, k⟩ := h
  cases hm
  exact k F H Evo.refl C)⟩
theorem stt_one (h : ST X cl c mt) : PTs X [c] (tmt X.K cl mt) := pts_one h
/-- the list that is being made: out of the frozen part, no cell -/
theorem Conc.out1 {F H : Hp} {α : List Addr} {μ : Mu} {D0 : Addr} {o u : HO} (C : Conc K cl F α μ H) (h1 : F D0 = none) (h2 : D0 ∉ α) (h3 : H D0 = some u) : Conc K cl F α μ (upd H D0 o) := by
  refine ⟨fun b x h => ?_, C.len, C.nd, fun k b xs q1 q2 => ?_, C.out⟩
  · rw [upd_ne (fun z => by rw [z, h1] at h; cases h)]
    exact C.sub b x h
  · obtain ⟨vs, g1, g2⟩ := C.cell k b xs q1 q2
    refine ⟨vs, ?_, g2⟩
    rw [upd_ne (fun z => h2 (by rw [← z]; exact List.mem_of_getElem? q1))]
    exact g1
theorem Evo.out1 {F H F' H' : Hp} {α α' : List Addr} {D0 : Addr} {o u : HO} (e : Evo F α H F' α' H') (h1 : H D0 = none) : Evo F α H F' α' (upd H' D0 o) := by
  refine ⟨e.ff, e.ext, fun b x h q => ?_, fun b h => ?_, e.fre, e.fra⟩
  · rw [upd_ne (ne_of_none h h1)]
    exact e.hh b x h q
  · by_cases z : b = D0
    · rw [z]
      exact h1
    · rw [upd_ne z] at h
      exact e.dom b h
theorem lc_imp {mi : MI} {t : TGT} {g : TG} {me : ME} {vs : List Nat} (hg : TgSem K cl g t vs) : ∀ σ H Q, tm K cl (mLc mi t mt me vs) σ H Q → tLc (tmi K cl mi) g (tmt K cl mt) (tm K cl me) vs σ H Q := fun σ H Q ⟨F, α, δ, μ, z, μ', C, Ee, hm, k⟩ => by
  unfold mLc at hm
  split at hm
  · cases hm
  rename_i xs gd μ1 h1
  split at hm
  · cases hm
  rename_i ys μ2 h2
  cases hm
  refine ⟨F, α, δ, μ, xs, gd, μ1, C, Ee, h1, fun J F1 H1 e1 c1 W D0 hD => ?_⟩
  obtain ⟨G, Y, w, hG, hY⟩ := W
  have fD : F1 D0 = none := by
    cases q : F1 D0 with
    | none => rfl
    | some u =>
      rw [c1.sub D0 u q] at hD
      cases hD
  have aD : D0 ∉ α := fun ha => by
    obtain ⟨kk, hk, ek⟩ := List.mem_iff_getElem.mp ha
    have hk2 : kk < μ1.length := by rw [← c1.len]; exact hk
    obtain ⟨us, q, _⟩ := c1.cell kk D0 μ1[kk] (by rw [List.getElem?_eq_getElem hk, ek]) (List.getElem?_eq_getElem hk2)
    rw [hD] at q
    cases q
  have gdOf : ∀ {i : Nat} {acc : List D} {μ3 : Mu}, lcLoop gd t mt me (wipeR δ vs) (xs.drop i) acc μ3 = some (ys, μ') → gd μ3 = true := by
    intro i acc μ3 h
    cases e : xs.drop i with
    | nil =>
      rw [e] at h
      unfold lcLoop at h
      split at h
      · rename_i z
        exact z
      · cases h
    | cons x r =>
      rw [e] at h
      unfold lcLoop at h
      split at h
      · rename_i z
        exact z
      · cases h
  refine lc_it w (fun i H2 => ∃ F2 μ3 acc us, Evo F1 α H1 F2 α H2 ∧ Conc K cl F2 α μ3 H2 ∧ F2 D0 = none ∧ H2 D0 = some (.lst us) ∧ Reps K cl F2 us acc ∧ lcLoop gd t mt me (wipeR δ vs) (xs.drop i) acc μ3 = some (ys, μ')) ?_ ?_ ?_ ?_
  · obtain ⟨e2, c2, r2⟩ := c1.newL hD .nil
    exact ⟨F1, μ1, [], [], e2, c2, fD, upd_same, .nil, h2⟩
  · rintro i H2 _ ⟨F2, μ3, acc, us, e2, c2, f2, d2, q2, h3⟩
    exact hG F2 α μ3 H2 e2.ff ⟨[], by simp⟩ c2 (gdOf h3)
  · rintro i x H2 H3 hi ⟨F2, μ3, acc, us, e2, c2, f2, d2, q2, h3⟩ y
    have gt := gdOf h3
    rw [List.drop_eq_getElem_cons hi] at h3
    unfold lcLoop at h3
    rw [if_pos gt] at h3
    split at h3
    · cases h3
    rename_i δ1 h4
    obtain ⟨F3, e3, c3, r3⟩ := hY i xs[i] F2 α μ3 H2 x H3 (List.getElem?_eq_getElem hi) e2.ff ⟨[], by simp⟩ c2 gt y
    have keepD : ∀ {F4 H4 : Hp}, Evo F2 α H2 F4 α H4 → F4 D0 = none ∧ H4 D0 = some (.lst us) := fun {F4 H4} e4 => by
      refine ⟨?_, e4.hh D0 _ d2 aD⟩
      cases q : F4 D0 with
      | none => rfl
      | some u =>
        have := e4.fre D0 u f2 q
        rw [d2] at this
        cases this
    refine hg F3 α (wipe σ vs) (wipeR δ vs) δ1 H3 x xs[i] _ c3.sub ((env_wipe ((Ee.step e1).step e2) vs).step e3) r3 h4 fun σ1 en1 hw => ⟨by rw [hw, wipe_eq (wipe_length σ vs) fun j hj => wipe_out hj], ?_⟩
    split at h3
    · cases h3
    · rename_i μ4 h5
      refine ⟨F3, α, δ1, μ3, _, μ4, c3, en1, h5, fun F4 H4 e4 c4 => iteF ?_⟩
      obtain ⟨k1, k2⟩ := keepD (e3.trans e4)
      exact ⟨F4, μ4, acc, us, e2.trans (e3.trans e4), c4, k1, k2, q2.mono (e3.trans e4).ff, h3⟩
    · rename_i μ4 h5
      split at h3
      · cases h3
      rename_i r5 μ5 h6
      split at h3
      · cases h3
      rename_i d h7
      split at h3
      · rename_i hl
        refine ⟨F3, α, δ1, μ3, _, μ4, c3, en1, h5, fun F4 H4 e4 c4 => iteT ⟨F4, α, δ1, μ4, r5, μ5, c4, en1.step e4, h6, fun v F5 H5 e5 c5 r5' => ?_⟩⟩
        obtain ⟨F6, e6, c6, r6⟩ := freeze e5 c5 r5'
        rw [froz_dat h7] at r6
        have eAll := e3.trans (e4.trans e6)
        obtain ⟨k1, k2⟩ := keepD eAll
        have q6 := q2.mono eAll.ff
        refine ⟨us, k2, sz_lt (by rw [q6.length]; exact hl), F6, μ5, acc ++ [d], us ++ [v], (e2.trans eAll).out1 (u := .lst us) hD, c6.out1 k1 aD k2, k1, upd_same, q6.append (.cons r6 .nil), h3⟩
      · cases h3
  · rintro H2 ⟨F2, μ3, acc, us, e2, c2, f2, d2, q2, h3⟩
    rw [List.drop_length] at h3
    unfold lcLoop at h3
    split at h3
    · cases h3
      exact k _ F2 H2 (e1.trans e2) c2 ⟨D0, us, rfl, e1.dom D0 hD, f2, aD, d2, q2⟩
    · cases h3
theorem se_lc {elt iter : Expr} {ifs : List Expr} {scope : Scope} {own : List (Str × Nat)} {mi : MI} {t : TGT} {g : TG} {me : ME} (hN : X.N.Nodup) (hi : SI X cl tg iter mi) (hgs : TgSem X.K cl g t (own.map (·.2)))
    (hg : ∀ (s : Shared) (H : Hp) (C : Addr) (cc : List (Str × Addr)) (fp : List Addr), PG (X.blk s H scope (compEnvC scope cc C X.env) fp) tg g)
    (ht : ∀ (s : Shared) (H : Hp) (C : Addr) (cc : List (Str × Addr)) (fp : List Addr), PTs (X.blk s H scope (compEnvC scope cc C X.env) fp) ifs (tmt X.K cl mt))
    (he : ∀ (s : Shared) (H : Hp) (C : Addr) (cc : List (Str × Addr)) (fp : List Addr), PE (X.blk s H scope (compEnvC scope cc C X.env) fp) elt (tm X.K cl me)) (ok : BlkOk X.N X.env.scope scope own) (hc : X.calm = true := by rfl) (hs : ∀ x, foldedSetIterable iter X.env x = pure x := by intro _; rfl) :
    SE X cl (.ListComp elt [⟨tg, iter, ifs, 0⟩] scope pos) (mLc mi t mt me (own.map (·.2))) := PE.weak (pe_lc hc hN hi ok hg ht he hs) (lc_imp hgs)
/-- y = [..] on one row -/
theorem asg_imp {t1 t2 : TE} {i : Nat} (h : ∀ σ H Q, t1 σ H Q → t2 σ H Q) : ∀ E σ H, tAsg t1 (gName i) E σ H → tAsg t2 (gName i) E σ H := fun E σ H q => h σ H _ q
theorem ss_setLc {i : Nat} {y : Str} {py spos : Pos} {elt iter : Expr} {ifs : List Expr} {scope : Scope} {own : List (Str × Nat)} {mi : MI} {t : TGT} {g : TG} {me : ME} (hN : X.N.Nodup) (hi : SI X cl tg iter mi) (hgs : TgSem X.K cl g t (own.map (·.2)))
    (hg : ∀ (s : Shared) (H : Hp) (C : Addr) (cc : List (Str × Addr)) (fp : List Addr), PG (X.blk s H scope (compEnvC scope cc C X.env) fp) tg g)
    (ht : ∀ (s : Shared) (H : Hp) (C : Addr) (cc : List (Str × Addr)) (fp : List Addr), PTs (X.blk s H scope (compEnvC scope cc C X.env) fp) ifs (tmt X.K cl mt))
    (he : ∀ (s : Shared) (H : Hp) (C : Addr) (cc : List (Str × Addr)) (fp : List Addr), PE (X.blk s H scope (compEnvC scope cc C X.env) fp) elt (tm X.K cl me)) (ok : BlkOk X.N X.env.scope scope own)
    (hsw : swapsWith (.ListComp elt [⟨tg, iter, ifs, 0⟩] scope pos) (some (.Name y py)) spos.line X.env = pure true) (hy : X.N[i]? = some y := by rfl) (hyl : X.env.scope.names.lookup y = some .local := by rfl) (hc : X.calm = true := by rfl) (hs : ∀ x, foldedSetIterable iter X.env x = pure x := by intro _; rfl) :
    SS X cl (.Assign [.Name y py] (.ListComp elt [⟨tg, iter, ifs, 0⟩] scope pos) spos) (mSet i (mLc mi t mt me (own.map (·.2)))) :=
  PS.weak (ps_setLc hc hN hy hyl hsw hi ok hg ht he hs) fun E σ H h => asg_imp (lc_imp hgs) E σ H (set_imp E σ H h)
/-! ### keywords -/
@[simp] def pick {β : Type} (is : List Nat) (l : List β) : List β := is.filterMap fun i => l[i]?
abbrev SK (X : Cx) (cl : Nat → Addr) (kws : List Keyword) (m : MA) : Prop := PK X kws (tma X.K cl m)
theorem PK.weak {kws : List Keyword} {t t' : TA} (h : PK X kws t) (k : ∀ σ H Q, t' σ H Q → t σ H Q) : PK X kws t' := ⟨fun pos pins s σ H Q I hw => h.run pos pins s σ H Q I (k σ H Q hw)⟩
theorem sk_nil : SK X cl [] mNil := by
  refine PK.weak pk_nil fun σ H Q ⟨F, α, δ, μ, z, μ', C, Ee, hm, k⟩ => ?_
  cases hm
  exact k [] F H Evo.refl C .nil
theorem sk_cons {nm : Option Str} {kpos : Pos} {kws : List Keyword} (ha : SE X cl a m) (hr : SK X cl kws ms) : SK X cl (⟨nm, a, kpos⟩ :: kws) (mCons m ms) := by
  refine PK.weak (pk_cons ha hr) fun σ H Q ⟨F, α, δ, μ, z, μ', C, Ee, hm, k⟩ => ?_
  unfold mCons at hm
  split at hm
  · cases hm
  rename_i r1 μ1 h1
  split at hm
  · cases hm
  rename_i rs μ2 h2
  cases hm
  refine ⟨F, α, δ, μ, r1, μ1, C, Ee, h1, fun v F1 H1 e1 c1 q1 => ?_⟩
  obtain ⟨F1', e1', c1', q1'⟩ := freeze e1 c1 q1
  refine ⟨F1', α, δ, μ1, rs, μ', c1', Ee.step e1', h2, fun vs F2 H2 e2 c2 q2 => k _ F2 H2 (e1'.trans e2) c2 (.cons ((arg_of q1').step e2) q2)⟩
theorem ArgRs.append {F : Hp} {α : List Addr} : ∀ {vs us : List V} {rs qs : List R}, ArgRs K cl F α vs rs → ArgRs K cl F α us qs → ArgRs K cl F α (vs ++ us) (rs ++ qs)
  | _, _, _, _, .nil, q => q
  | _, _, _, _, .cons r q, s => .cons r (ArgRs.append q s)
theorem ArgRs.pick {F : Hp} {α : List Addr} {vs : List V} {rs : List R} (h : ArgRs K cl F α vs rs) : ∀ is : List Nat, ArgRs K cl F α (pick is vs) (pick is rs)
  | [] => .nil
  | i :: is => by
    have ih := ArgRs.pick h is
    unfold DL.pick at ih ⊢
    rw [List.filterMap_cons, List.filterMap_cons]
    cases e : rs[i]? with
    | none =>
      have e2 : vs[i]? = none := List.getElem?_eq_none (by rw [h.length]; exact List.getElem?_eq_none_iff.mp e)
      rw [e2]
      exact ih
    | some r =>
      obtain ⟨v, e2, q⟩ := h.get e
      rw [e2]
      exact .cons q ih
theorem Vals.append' : ∀ {xs ys : List V} {us ws : List Value}, Vals xs us → Vals ys ws → Vals (xs ++ ys) (us ++ ws) := fun h q => Vals.append h q
theorem vals_pick {vs : List V} {us : List Value} (h : Vals vs us) : ∀ is : List Nat, Vals (pick is vs) (pick is us)
  | [] => .nil
  | i :: is => by
    have ih := vals_pick h is
    unfold DL.pick at ih ⊢
    rw [List.filterMap_cons, List.filterMap_cons]
    cases e : vs[i]? with
    | none =>
      rw [h.none_of e]
      exact ih
    | some r =>
      obtain ⟨v, e2, q⟩ := h.get e
      rw [e2]
      exact .cons q ih
/-- a def that is called by names -/
structure FK (P : Program) (w : World) (K : PySem.W.Frag) (mg : Str → Option Value) (base : Heap) (cl : Nat → Addr) (k : Nat) (x : Str) (n : Nat) (m : MF) (np : Nat) (ks : List Str) (is : List Nat) : Prop where
  ok : ∃ (f : Addr) (fd : FuncData) (ps : List Str), FnOk P w K mg base CX0 k f fd ps (spM K cl n m) ∧ mg x = some (.ref f) ∧ PySem.W.keepIn K (.ref f) = true ∧ KBn K fd ps np ks (fun us ws => pick is (us ++ ws)) (fun us ws => pick is (us ++ ws))
  ar : ∀ rs μ z, m rs μ = some z → rs.length = n
theorem kbn_of {fd : FuncData} {ps : List Str} {np : Nat} {ks : List Str} {is : List Nat} (h : ∀ (s : Shared) (us ws : List Value), K.In s.heap → us.length = np → ws.length = ks.length → BindsTo s fd ⟨us, ks.zip ws⟩ (ps.zip (pick is (us ++ ws)))) : KBn K fd ps np ks (fun us ws => pick is (us ++ ws)) (fun us ws => pick is (us ++ ws)) :=
  ⟨h, fun h1 h2 => vals_pick (Vals.append h1 h2) is⟩
@[simp] def mCallK (f : MF) (np nk : Nat) (is : List Nat) (ms mk : MA) : ME := fun δ μ => match ms δ μ with
  | none => none
  | some (rs, μ1) => match mk δ μ1 with
    | none => none
    | some (zs, μ2) => if rs.length = np ∧ zs.length = nk then f (pick is (rs ++ zs)) μ2 else none
theorem callK_imp {n np nk : Nat} {is : List Nat} {mf : MF} {mk : MA} (ar : ∀ rs μ z, mf rs μ = some z → rs.length = n) : ∀ σ H Q, tm K cl (mCallK mf np nk is ms mk) σ H Q → tCallN np nk (spM K cl n mf) (fun us ws => pick is (us ++ ws)) E0 (tma K cl ms) (tma K cl mk) σ H Q := fun σ H Q ⟨F, α, δ, μ, z, μ', C, Ee, hm, k⟩ => by
  unfold mCallK at hm
  split at hm
  · cases hm
  rename_i rs μ1 h1
  split at hm
  · cases hm
  rename_i zs μ2 h2
  split at hm
  · rename_i hl
    refine ⟨F, α, δ, μ, rs, μ1, C, Ee, h1, fun vs F1 H1 e1 c1 q1 => ⟨F1, α, δ, μ1, zs, μ2, c1, Ee.step e1, h2, fun us F2 H2 e2 c2 q2 => ⟨by rw [q1.length]; exact hl.1, by rw [q2.length]; exact hl.2, ?_⟩⟩⟩
    have q1' : ArgRs K cl F2 α vs rs := by
      clear h1 h2 hl hm
      induction q1 with
      | nil => exact .nil
      | cons r q ih => exact .cons (r.step e2) ih
    have q3 := (q1'.append q2).pick is
    exact ⟨F2, α, μ2, _, z, μ', by rw [q3.length, ar _ _ _ hm], c2, q3, hm, fun v F3 H3 e3 c3 r3 => k v F3 H3 (e1.trans (e2.trans e3)) c3 (r3.back fun p hp => e1.dom p (e2.dom p hp))⟩
  · cases hm
variable {k j n np : Nat} {x : Str} {mf : MF} {mk : MA} {ks : List Str} {is : List Nat} {kws : List Keyword}
theorem se_callK {nk : Nat} (S : FK X.prog X.w X.K X.mg X.base cl k x n mf np ks is) (hr : Room j X.A) (hk : k ≤ j) (ha : SA X cl (e :: es) ms) (hkw : SK X cl kws mk) (hnk : ks.length = nk := by rfl) (hg : Gl X x := by rfl) (hall : (backToKw pos (keywordEach kws X.env)).all (·.1.isSome) = true := by rfl) (hks : (backToKw pos (keywordEach kws X.env)).filterMap (·.1) = ks := by rfl)
    (hdb : (x == ("__debug__" : Str)) = false := by decide) (he : starEach (e :: es) X.env = (false, eval e X.env) :: starEach es X.env := by rfl) (hpl : ((backTo pos (starEach (e :: es) X.env)).any (·.1) || (backToKw pos (keywordEach kws X.env)).any (·.1.isNone)) = false := by rfl) :
    SE X cl (.Call (.Name x p) (e :: es) kws pos) (mCallK mf np nk is ms mk) := by
  subst hnk
  obtain ⟨f, fd, ps, F, hm, hkp, hb⟩ := S.ok
  exact PE.weak (pe_callN F (hr.mono hk) hg hm hkp hb pass0 ha hkw hall hks hdb he hpl) (callK_imp S.ar)
theorem pe_callN0 {CX : CXT} {f : Addr} {fd : FuncData} {ps : List Str} {sp : Sp} {E : XK} {g : List Value → List Value → List Value} {gV : List V → List V → List V} {tk : TA} (F : FnOk X.prog X.w X.K X.mg X.base CX k f fd ps sp) (hr : Room k X.A) (hg : Gl X x) (hm : X.mg x = some (.ref f)) (hk : PySem.W.keepIn X.K (.ref f) = true) (hb : KBn X.K fd ps 0 ks g gV) (hx : Passes CX X E)
    (hkw : PK X kws tk) (hall : (backToKw pos (keywordEach kws X.env)).all (·.1.isSome) = true := by rfl) (hks : (backToKw pos (keywordEach kws X.env)).filterMap (·.1) = ks := by rfl) (hdb : (x == ("__debug__" : Str)) = false := by decide)
    (hpl : ((backTo pos (starEach [] X.env)).any (·.1) || (backToKw pos (keywordEach kws X.env)).any (·.1.isNone)) = false := by rfl) :
    PE X (.Call (.Name x p) [] kws pos) (tCallN 0 ks.length sp gV E tNil tk) := by
  refine ⟨fun pins s σ H Q I h => ?_⟩
  refine wpAny_Call_Name_kw (ld_glob I hg hm ?_ hdb)
  refine PySem.W.callWith_KW0 (h₀ := X.base) I.ok.mod.kin hk hall ?_ hpl
  refine thn (hkw.run pos pins s σ H _ I h) fun ws s2 ⟨zs, H2, I2, rz, l1, l2, q2⟩ => ⟨I2.kIn, ?_⟩
  rw [hks]
  exact run_fnN (us := []) (vs := []) F hr hb hx I2 .nil rz l1 l2 q2
theorem se_callK0 {nk : Nat} (S : FK X.prog X.w X.K X.mg X.base cl k x n mf 0 ks is) (hr : Room j X.A) (hk : k ≤ j) (hkw : SK X cl kws mk) (hnk : ks.length = nk := by rfl) (hg : Gl X x := by rfl) (hall : (backToKw pos (keywordEach kws X.env)).all (·.1.isSome) = true := by rfl) (hks : (backToKw pos (keywordEach kws X.env)).filterMap (·.1) = ks := by rfl)
    (hdb : (x == ("__debug__" : Str)) = false := by decide) (hpl : ((backTo pos (starEach [] X.env)).any (·.1) || (backToKw pos (keywordEach kws X.env)).any (·.1.isNone)) = false := by rfl) :
    SE X cl (.Call (.Name x p) [] kws pos) (mCallK mf 0 nk is mNil mk) := by
  subst hnk
  obtain ⟨f, fd, ps, F, hm, hkp, hb⟩ := S.ok
  refine PE.weak (pe_callN0 F (hr.mono hk) hg hm hkp hb pass0 hkw hall hks hdb hpl) fun σ H Q h => ?_
  obtain ⟨F, α, δ, μ, rs, μ1, C, Ee, h1, h2⟩ := callK_imp S.ar σ H Q h
  cases h1
  exact h2 [] F H Evo.refl C .nil
end
end DL
set_option Elab.async false
set_option linter.all false
set_option maxRecDepth 100000
set_option maxHeartbeats 1000000
namespace DL
open PySem PySem.Spec PyProof.Rows L2
section
variable {X : Cx} {cl : Nat → Addr} {e a b c tg : Expr} {es : List Expr} {m ma mb mc : ME} {pos p : Pos} {K : PySem.W.Frag}
/-- over a list or a tuple -/
@[simp] def mIt (m : ME) : MI := fun δ μ => match mItL m δ μ with
  | some z => some z
  | none => mItT m δ μ
theorem si_seq (h : SE X cl e m) : SI X cl tg e (mIt m) := by
  refine ⟨fun pins s σ H Q I hw => ?_⟩
  obtain ⟨F, α, δ, μ, xs, gd, μ', C, Ee, hm, k⟩ := hw
  unfold mIt at hm
  split at hm
  · rename_i z h1
    cases hm
    exact (si_list h).run pins s σ H Q I ⟨F, α, δ, μ, xs, gd, μ', C, Ee, h1, k⟩
  · exact (si_tup h).run pins s σ H Q I ⟨F, α, δ, μ, xs, gd, μ', C, Ee, hm, k⟩
end
theorem def_zero {P : Program} {w : World} {K : PySem.W.Frag} {mg : Str → Option Value} {base : Heap} {cl : Nat → Addr} {k n : Nat} {f : Addr} {fd : FuncData} {ps : List Str} : FnOk P w K mg base CX0 k f fd ps (spM K cl n (fun _ _ => none)) :=
  have no : ∀ vs H Q E, spM K cl n (fun _ _ => none) vs H Q E → False := fun vs H Q E h => by
    obtain ⟨_, _, _, _, _, _, _, _, _, h, _⟩ := h
    cases h
  ⟨fun vs H Q E h => (no vs H Q E h).elim, fun A outer s H args us vs Q E _ _ _ _ h => (no vs H Q E h).elim⟩
def sub1 : Stmt → List Stmt
  | .If _ b _ _ => b
  | .For _ _ b _ _ => b
  | .While _ b _ _ => b
  | _ => []
def sub2 : Stmt → List Stmt
  | .If _ _ b _ => b
  | _ => []
/-- the built-ins are as they were -/
structure Bt (mg : Str → Option Value) : Prop where
  len : mg "len" = none
  abs : mg "abs" = none
  int : mg "int" = none
  min : mg "min" = none
  max : mg "max" = none
  list : mg "list" = none
  tuple : mg "tuple" = none
  bool : mg "bool" = none
  str : mg "str" = none
  range : mg "range" = none
  zip : mg "zip" = none
  enumerate : mg "enumerate" = none
  all : mg "all" = none
  any : mg "any" = none
  isinstance : mg "isinstance" = none
theorem boot_bool' : bootBuiltins "bool" = some (.type "bool") := by decide +kernel
theorem boot_int' : bootBuiltins "int" = some (.type "int") := by decide +kernel
theorem boot_str' : bootBuiltins "str" = some (.type "str") := by decide +kernel
theorem boot_list' : bootBuiltins "list" = some (.type "list") := by decide +kernel
theorem boot_tuple' : bootBuiltins "tuple" = some (.type "tuple") := by decide +kernel
/-- the script is handed in, True is wanted -/
def spLaw (K : PySem.W.Frag) : Sp := fun vs H Q _ => ∃ (a : Addr) (ns : List Int), vs = [.ref a] ∧ SqL K H a (ns.map V.int) ∧ ns.length ≤ 63 ∧ ∀ H', Q (.bl true) H'
theorem law_end {P : Program} {w : World} {K : PySem.W.Frag} {mg : Str → Option Value} {base : Heap} {cl : Nat → Addr} {k : Nat} {f : Addr} {fd : FuncData} {ps : List Str} {m : MF} (F : FnOk P w K mg base CX0 k f fd ps (spM K cl 1 m))
    (h : ∀ ns : List Int, ns.length ≤ 63 → m [.dat (.scr ns)] [] = some (.dat (.bl true), [])) : FnOk P w K mg base CX0 k f fd ps (spLaw K) := by
  refine F.imp fun vs H Q E q => ?_
  obtain ⟨a, ns, rfl, hS, hl, q⟩ := q
  refine ⟨H, [], [], [.dat (.scr ns)], _, _, rfl, ⟨Same.refl H, rfl, List.nodup_nil, fun k a xs h => by simp at h, fun a h => by simp at h⟩, .cons (.scr hS) .nil, h ns hl, fun v F' H' e c r => ?_⟩
  rw [rep_bl r]
  exact q H'
theorem walk {l : PySem.W.OpenLaw} {q : Program} {loose : List Str} {XP : (Str → Option Value) → Heap → Prop} {YP : World → Heap → Prop} {d : DefRec} {K : Params → PySem.W.Frag} {k : Nat} (hk : k ≤ 200) (hn : l.most = some 63) (hdf : d.params.defaults = [])
    (hY : ∀ (w : World) (h : Heap), YP w h → (K w.params).In h)
    (F : ∀ (w : World) (mg : Str → Option Value) (fa : Addr) (h : Heap), (K w.params).In h → h.Ns mainGlobals mg → mg d.name = some (.ref fa) →
      ∃ fd : FuncData, (∀ (s : Shared) (u : Value), BindsTo s fd ⟨[u], []⟩ [("_law_script", u)]) ∧ ∀ base : Heap, (K w.params).In base → base.Ns mainGlobals mg → FnOk l.prog w (K w.params) mg base CX0 k fa fd ["_law_script"] (spLaw (K w.params))) :
    PySem.W.WalkO q loose XP YP l.row.toRowW d [] (fun f vs => PySem.call f vs) :=
  L2.walk_of (n := 63) (k := k) (x := "_law_script") (CX := fun _ => CX0) (sp := fun w => spLaw (K w.params)) hn (by decide) hdf (Room.mono (k := 200) ⟨rfl, by decide, by decide⟩ hk) hY F (fun _ _ a ns hl _ hS => ⟨a, ns, rfl, hS, hl, fun _ => rfl⟩) fun _ _ _ _ _ z => z
end DL
set_option Elab.async false
set_option linter.all false
set_option maxRecDepth 100000
set_option maxHeartbeats 1000000
namespace DL
open PySem PySem.Spec PyProof.Rows L2
/-! ### a call sees the cells that it is handed, no others -/
@[simp] def cellsIn : List R → List Nat
  | [] => []
  | .cel k :: rs => k :: cellsIn rs
  | _ :: rs => cellsIn rs
@[simp] def plainR : R → Bool
  | .dat _ => true
  | .fr _ => true
  | _ => false
@[simp] def reCel : List R → List R
  | [] => []
  | .cel _ :: rs => .cel 0 :: reCel rs
  | r :: rs => r :: reCel rs
@[simp] def callX (f : MF) : MF := fun rs μ => match cellsIn rs with
  | [] => match f rs [] with
    | some (r, []) => if plainR r = true then some (r, μ) else none
    | _ => none
  | [k] => match μ[k]? with
    | some xs => match f (reCel rs) [xs] with
      | some (r, [ys]) => if plainR r = true then some (r, μ.set k ys) else none
      | _ => none
    | none => none
  | _ => none
section
variable {K : PySem.W.Frag} {cl : Nat → Addr}
theorem args_none {F : Hp} {α β : List Addr} : ∀ {vs : List V} {rs : List R}, ArgRs K cl F α vs rs → cellsIn rs = [] → ArgRs K cl F β vs rs
  | _, _, .nil, _ => .nil
  | _, _, .cons (r := r) h q, e => by
    cases r with
    | dat d => exact .cons h (args_none q e)
    | cel k => cases e
    | no => exact h.elim
    | fr xs => exact h.elim
theorem args_one {F : Hp} {α : List Addr} {k : Nat} {a : Addr} (ha : α[k]? = some a) : ∀ {vs : List V} {rs : List R}, ArgRs K cl F α vs rs → (∀ j, j ∈ cellsIn rs → j = k) → ArgRs K cl F [a] vs (reCel rs)
  | _, _, .nil, _ => .nil
  | _, _, .cons (r := r) h q, e => by
    cases r with
    | dat d => exact .cons h (args_one ha q e)
    | cel j =>
      have ej := e j List.mem_cons_self
      subst ej
      obtain ⟨b, h1, h2⟩ := h
      rw [ha] at h1
      cases h1
      exact .cons ⟨a, rfl, h2⟩ (args_one ha q fun i hi => e i (List.mem_cons_of_mem _ hi))
    | no => exact h.elim
    | fr xs => exact h.elim
theorem cell_some {F H : Hp} {α : List Addr} {μ : Mu} (C : Conc K cl F α μ H) {a : Addr} (h : a ∈ α) : ∃ vs, H a = some (.lst vs) := by
  obtain ⟨k, hk, ek⟩ := List.mem_iff_getElem.mp h
  have hk2 : k < μ.length := by rw [← C.len]; exact hk
  obtain ⟨vs, q, _⟩ := C.cell k a μ[k] (by rw [List.getElem?_eq_getElem hk, ek]) (List.getElem?_eq_getElem hk2)
  exact ⟨vs, q⟩
theorem out_stays {F H F' H' : Hp} {α β : List Addr} {μ : Mu} (C : Conc K cl F α μ H) (e : Evo F β H F' β H') {b : Addr} (hb : b ∈ α) : F' b = none := by
  cases q : F' b with
  | none => rfl
  | some o =>
    obtain ⟨vs, h⟩ := cell_some C hb
    have := e.fre b o (C.out b hb) q
    rw [h] at this
    cases this
theorem callX_sp {n : Nat} {f : MF} {vs : List V} {H : Hp} {Q : VK} {E : XK} (h : spM K cl n (callX f) vs H Q E) : spM K cl n f vs H Q E := by
  obtain ⟨F, α, μ, rs, r, μ', hl, C, ha, hm, k⟩ := h
  unfold callX at hm
  split at hm
  · rename_i e0
    split at hm
    · rename_i r1 h1
      split at hm
      · rename_i hp
        cases hm
        refine ⟨F, [], [], rs, r, [], hl, ⟨C.sub, rfl, List.nodup_nil, fun _ _ _ h => by simp at h, fun _ h => by simp at h⟩, args_none ha e0, h1, fun v F' H' e c q => ?_⟩
        refine k v F' H' ⟨e.ff, ⟨[], by simp⟩, fun b o hb _ => e.hh b o hb (by simp), e.dom, e.fre, fun b hb z => absurd hb z⟩ ⟨c.sub, C.len, C.nd, fun j b xs q1 q2 => ?_, fun b hb => out_stays C e hb⟩ ?_
        · obtain ⟨us, g1, g2⟩ := C.cell j b xs q1 q2
          exact ⟨us, e.hh b _ g1 (by simp), g2.mono e.ff⟩
        · cases r with
          | dat d => exact q
          | fr xs =>
            obtain ⟨a, us, g1, g2, g3, g4, g5, g6⟩ := q
            refine ⟨a, us, g1, g2, g3, fun z => ?_, g5, g6⟩
            obtain ⟨ws, g7⟩ := cell_some C z
            rw [g2] at g7
            cases g7
          | no => cases hp
          | cel j => cases hp
      · cases hm
    · cases hm
  · rename_i j e0
    split at hm
    · rename_i xs e1
      split at hm
      · rename_i r1 ys h1
        split at hm
        · rename_i hp
          cases hm
          have hj : j < α.length := by rw [C.len]; exact (List.getElem?_eq_some_iff.mp e1).1
          have ja : α[j]? = some α[j] := List.getElem?_eq_getElem hj
          have jin : α[j] ∈ α := List.getElem_mem hj
          refine ⟨F, [α[j]], [xs], reCel rs, r, [ys], hl, ⟨C.sub, rfl, by simp, fun i b zs q1 q2 => ?_, fun b hb => ?_⟩, args_one ja ha (fun i hi => by rw [e0] at hi; simpa using hi), h1, fun v F' H' e c q => ?_⟩
          · cases i with
            | zero =>
              simp at q1 q2
              subst q1 q2
              exact C.cell j _ xs ja e1
            | succ i => simp at q1
          · rw [List.mem_singleton.mp hb]
            exact C.out _ jin
          · have new : ∀ b, H b = none → b ∉ α := fun b hb z => by
              obtain ⟨ws, g7⟩ := cell_some C z
              rw [hb] at g7
              cases g7
            refine k v F' H' ⟨e.ff, ⟨[], by simp⟩, fun b o hb nb => e.hh b o hb (fun z => nb (by rw [List.mem_singleton.mp z]; exact jin)), e.dom, e.fre, fun b hb z => absurd hb z⟩ ⟨c.sub, by simp [C.len], C.nd, fun i b zs q1 q2 => ?_, fun b hb => out_stays C e hb⟩ ?_
            · by_cases hij : j = i
              · subst hij
                rw [ja] at q1
                cases q1
                rw [List.getElem?_set_self (by rw [← C.len]; exact hj)] at q2
                cases q2
                exact c.cell 0 _ _ rfl rfl
              · rw [List.getElem?_set_ne hij] at q2
                obtain ⟨us, g1, g2⟩ := C.cell i b zs q1 q2
                refine ⟨us, e.hh b _ g1 (fun z => hij ?_), g2.mono e.ff⟩
                rw [List.mem_singleton.mp z] at q1
                exact nd_ix C.nd ja q1
            · cases r with
              | dat d => exact q
              | fr xs =>
                obtain ⟨a, us, g1, g2, g3, g4, g5, g6⟩ := q
                exact ⟨a, us, g1, g2, g3, new a g2, g5, g6⟩
              | no => cases hp
              | cel j => cases hp
        · cases hm
      · cases hm
    · cases hm
  · cases hm
theorem reCel_length : ∀ rs : List R, (reCel rs).length = rs.length
  | [] => rfl
  | .cel _ :: rs => congrArg (· + 1) (reCel_length rs)
  | .dat _ :: rs => congrArg (· + 1) (reCel_length rs)
  | .no :: rs => congrArg (· + 1) (reCel_length rs)
  | .fr _ :: rs => congrArg (· + 1) (reCel_length rs)
theorem callX_ar {n : Nat} {f : MF} (ar : ∀ rs μ z, f rs μ = some z → rs.length = n) : ∀ rs μ z, callX f rs μ = some z → rs.length = n := fun rs μ z h => by
  unfold callX at h
  split at h
  · split at h
    · rename_i r1 h1
      exact ar _ _ _ h1
    · cases h
  · split at h
    · split at h
      · rename_i r1 ys h1
        rw [← reCel_length]
        exact ar _ _ _ h1
      · cases h
    · cases h
  · cases h
theorem FS.x {P : Program} {w : World} {mg : Str → Option Value} {base : Heap} {k : Nat} {x : Str} {n : Nat} {m : MF} (S : FS P w K mg base cl k x n m) : FS P w K mg base cl k x n (callX m) := by
  obtain ⟨⟨f, fd, ps, F, h⟩, ar⟩ := S
  exact ⟨⟨f, fd, ps, F.imp fun vs H Q E h => callX_sp h, h⟩, callX_ar ar⟩
theorem FK.x {P : Program} {w : World} {mg : Str → Option Value} {base : Heap} {k : Nat} {x : Str} {n : Nat} {m : MF} {np : Nat} {ks : List Str} {is : List Nat} (S : FK P w K mg base cl k x n m np ks is) : FK P w K mg base cl k x n (callX m) np ks is := by
  obtain ⟨⟨f, fd, ps, F, h⟩, ar⟩ := S
  exact ⟨⟨f, fd, ps, F.imp fun vs H Q E h => callX_sp h, h⟩, callX_ar ar⟩
/-- f(e), e a new list that f may change -/
@[simp] def mCall1 (f : MF) (m : ME) : ME := fun δ μ => match m δ μ with
  | some (.fr xs, μ1) => match f [.cel 0] [xs] with
    | some (r, [_]) => if plainR r = true then some (r, μ1) else none
    | _ => none
  | _ => none
variable {X : Cx} {e : Expr} {es : List Expr} {pos p : Pos} {k j n : Nat} {x : Str} {mf : MF} {ms : MA} {m : ME}
theorem se_call1 (S : FS X.prog X.w X.K X.mg X.base cl k x 1 mf) (hr : Room j X.A) (hk : k ≤ j) (ha : SE X cl e m) (hg : Gl X x := by rfl) (hdb : (x == ("__debug__" : Str)) = false := by decide) (he : starEach (e :: []) X.env = (false, eval e X.env) :: starEach [] X.env := by rfl) (hpl : (backTo pos (starEach [] X.env)).any (·.1) = false := by rfl) :
    SE X cl (.Call (.Name x p) [e] [] pos) (mCall1 mf m) := by
  obtain ⟨f, fd, ps, F, hm, hkp, hb, _⟩ := S.ok
  refine PE.weak (pe_call F (hr.mono hk) hg hm hkp hb .nil pass0 (pa_cons ha pa_nil he) hdb he hpl) fun σ H Q ⟨F, α, δ, μ, z, μ', C, Ee, hm, k⟩ => ?_
  unfold mCall1 at hm
  split at hm
  · rename_i xs μ1 h1
    split at hm
    · rename_i r ys h2
      split at hm
      · rename_i hp
        cases hm
        refine ⟨F, α, δ, μ, _, μ', C, Ee, h1, fun v F1 H1 e1 c1 q1 => ?_⟩
        obtain ⟨a, us, g1, g2, g3, g4, g5, g6⟩ := q1
        subst g1
        refine ⟨F1, [a], [xs], [.cel 0], z, [ys], rfl, ⟨c1.sub, rfl, by simp, fun i b zs q1 q2 => ?_, fun b hb => by rw [List.mem_singleton.mp hb]; exact g3⟩, .cons ⟨a, rfl, rfl⟩ .nil, h2, fun v F' H' e c q => ?_⟩
        · cases i with
          | zero =>
            simp at q1 q2
            subst q1 q2
            exact ⟨us, g5, g6⟩
          | succ i => simp at q1
        · have e' : Evo F1 α H1 F' α H' → True := fun _ => trivial
          have ev : Evo F α H F' α H' := by
            refine ⟨e1.ff.trans e.ff, ⟨[], by simp⟩, fun b o hb nb => e.hh b o (e1.hh b o hb nb) (fun z => ?_), fun b hb => e1.dom b (e.dom b hb), fun b o hb hq => ?_, fun b hb z => absurd hb z⟩
            · rw [List.mem_singleton.mp z, g2] at hb
              cases hb
            · cases e3 : F1 b with
              | none => exact e1.dom b (e.fre b o e3 hq)
              | some u => exact e1.fre b u hb e3
          refine k v F' H' ev ⟨c.sub, c1.len, c1.nd, fun i b zs q1 q2 => ?_, fun b hb => out_stays c1 e hb⟩ ?_
          · obtain ⟨us, l1, l2⟩ := c1.cell i b zs q1 q2
            refine ⟨us, e.hh b _ l1 (fun z => g4 ?_), l2.mono e.ff⟩
            rw [← List.mem_singleton.mp z]
            exact List.mem_of_getElem? q1
          · cases z with
            | dat d => exact q
            | fr xs =>
              obtain ⟨b, us, l1, l2, l3, l4, l5, l6⟩ := q
              refine ⟨b, us, l1, e1.dom b l2, l3, fun z => ?_, l5, l6⟩
              obtain ⟨ws, l7⟩ := cell_some c1 z
              rw [l2] at l7
              cases l7
            | no => cases hp
            | cel j => cases hp
      · cases hm
    · cases hm
  · cases hm
end
end DL
set_option Elab.async false
set_option linter.all false
set_option maxRecDepth 100000
set_option maxHeartbeats 1000000
/-! the helpers that the laws share, and what they are worth -/
namespace DL
open PySem L2
def M_box_0 : MS := (mSet 2 (mIf (mB (mOp fLt (mVar 1) (mCb fLen (mCons (mVar 0) mNil)))) (mOp fIx (mVar 0) (mVar 1)) (mC (.int 0))))
def M_box_1 : MS := (mRet (mLst (mCons (mOp fMul (mCb fAbs (mCons (mVar 2) mNil)) (mCb fInt (mCons (mOp fGeI (mCb fAbs (mCons (mVar 2) mNil)) (mOp fPow (mC (.int 10)) (mC (.int 18)))) mNil))) (mCons (mOp fAdd (mOp fAdd (mOp fMod (mCb fInt (mCons (mVar 2) mNil)) (mC (.int 2305843009213693951))) (mOp fMul (mC (.int 39373)) (mVar 1))) (mC (.int 293))) (mCons (mC (.int 0)) mNil)))))
def M_box : MF := mDef 2 3
  (mSeq M_box_0
  M_box_1)
def M_take_0 : MS := (mSet 2 (mOp fMod (mCb fInt (mCons (mOp fIx (mVar 0) (mC (.int 0))) mNil)) (mVar 1)))
def M_take_1 : MS := (mPut (mVar 0) (mC (.int 0)) (mOp fDiv (mOp fIx (mVar 0) (mC (.int 0))) (mVar 1)))
def M_take_2 : MS := (mRet (mVar 2))
def M_take_3 : MS := (mIfS (mB (mOp fGtI (mOp fIx (mVar 0) (mC (.int 0))) (mC (.int 0)))) (mSeq M_take_0
  (mSeq M_take_1
  M_take_2)) mNx)
def M_take_4 : MS := (mPut (mVar 0) (mC (.int 2)) (mOp fAdd (mOp fIx (mVar 0) (mC (.int 2))) (mC (.int 1))))
def M_take_5 : MS := (mSet 3 (mOp fMod (mCb fInt (mCons (mOp fMul (mOp fAdd (mOp fIx (mVar 0) (mC (.int 1))) (mOp fMul (mC (.int 48271)) (mOp fIx (mVar 0) (mC (.int 2))))) (mOp fAdd (mC (.int 39373)) (mOp fIx (mVar 0) (mC (.int 2))))) mNil)) (mC (.int 2147483647))))
def M_take_6 : MS := (mSet 4 (mOp fAdd (mOp fMod (mCb fInt (mCons (mVar 3) mNil)) (mC (.int 40009))) (mC (.int 7))))
def M_take_7 : MS := (mSet 5 (mOp fMod (mCb fInt (mCons (mOp fMul (mOp fAdd (mOp fAdd (mVar 3) (mOp fIx (mVar 0) (mC (.int 2)))) (mOp fDiv (mOp fIx (mVar 0) (mC (.int 1))) (mC (.int 1000003)))) (mVar 4)) mNil)) (mC (.int 2147483629))))
def M_take_8 : MS := (mRet (mOp fMod (mCb fInt (mCons (mOp fDiv (mOp fMod (mCb fInt (mCons (mOp fAdd (mOp fMul (mVar 5) (mC (.int 48271))) (mVar 3)) mNil)) (mC (.int 2147483587))) (mC (.int 64))) mNil)) (mVar 1)))
def M_take : MF := mDef 2 6
  (mSeq M_take_3
  (mSeq M_take_4
  (mSeq M_take_5
  (mSeq M_take_6
  (mSeq M_take_7
  M_take_8)))))
def M_cells_0 : MS := (mSetC 2 (mOr (mCb fList (mCons (mSl (mVar 0) mNo (mSo (mVar 1))) mNil)) (mLst (mCons (mC (.int 0)) mNil))))
def M_cells_1 : MS := (mSet 5 (mOp fMod (mCb fInt (mCons (mVar 3) mNil)) (mVar 1)))
def M_cells_2 : MS := (mPut (mVar 2) (mVar 5) (mOp fAdd (mOp fIx (mVar 2) (mVar 5)) (mOp fMul (mVar 4) (mOp fAdd (mVar 3) (mC (.int 2))))))
def M_cells_b3 : MS := (mSeq M_cells_1
  M_cells_2)
def M_cells_4 : MS := (mFor (mItE (mCons (mSl (mVar 0) (mSo (mVar 1)) (mSo (mC (.int 63)))) mNil)) (tgPair 3 4) M_cells_b3)
def M_cells_5 : MS := (mRet (mVar 2))
def M_cells : MF := mDef 2 6
  (mSeq M_cells_0
  (mSeq M_cells_4
  M_cells_5))
def M_of_0 : MS := (mRet (mOp fIx (mVar 1) (mCall (callX M_take) (mCons (mVar 0) (mCons (mCb fLen (mCons (mVar 1) mNil)) mNil)))))
def M_of : MF := mDef 2 2
  M_of_0
def M_same_0 (r : MF) : MS := (mRet (mC (.bl false)))
def M_same_1 (r : MF) : MS := (mIfS (mtOr (mB (mOp (fEq true) (mIsi "list" (mVar 0)) (mIsi "list" (mVar 1)))) (mB (mOp (fEq true) (mIsi "tuple" (mVar 0)) (mIsi "tuple" (mVar 1))))) (M_same_0 r) mNx)
def M_same_e2 (r : MF) : ME := (mCall (callX r) (mCons (mVar 2) (mCons (mVar 3) mNil)))
def M_same_3 (r : MF) : MS := (mRet (mAnd (mOp (fEq false) (mCb fLen (mCons (mVar 0) mNil)) (mCb fLen (mCons (mVar 1) mNil))) (mCb fAll (mCons (mLc (mItZ (mCons (mVar 0) (mCons (mVar 1) mNil))) (tgPair 2 3) mYes (M_same_e2 r) [2, 3]) mNil))))
def M_same_4 (r : MF) : MS := (mIfS (mB (mIsi2 "list" "tuple" (mVar 1))) (mSeq (M_same_1 r)
  (M_same_3 r)) mNx)
def M_same_5 (r : MF) : MS := (mRet (mAnd (mOp (fEq false) (mVar 0) (mVar 1)) (mAnd (mOp (fEq false) (mIsi "bool" (mVar 0)) (mIsi "bool" (mVar 1))) (mOp (fEq false) (mOp (fIsN false) (mVar 0) (mC .non)) (mOp (fIsN false) (mVar 1) (mC .non))))))
def M_same_6 (r : MF) : MS := (mIfS (mtOr (mB (mOp (fIsN false) (mVar 1) (mC .non))) (mB (mIsi2 "bool" "str" (mVar 1)))) (M_same_5 r) mNx)
def M_same_7 (r : MF) : MS := (mRet (mAnd (mIsi "int" (mVar 0)) (mAnd (mNot (mIsi "bool" (mVar 0))) (mOp (fEq false) (mVar 0) (mVar 1)))))
def M_same : Nat → MF
  | 0 => fun _ _ => none
  | j + 1 => mDef 2 4 (mSeq (M_same_4 (M_same j))
      (mSeq (M_same_6 (M_same j))
      (M_same_7 (M_same j))))
def M_pick_0 : MS := (mPar true true 3 4 (mCb fList (mCons (mVar 1) mNil)) (mLst mNil))
def M_pick_1 : MS := (mDrop (mBm fAppend (mVar 4) (mCons (mBm fPopAt (mVar 3) (mCons (mCall (callX M_take) (mCons (mVar 0) (mCons (mCb fLen (mCons (mVar 3) mNil)) mNil))) mNil)) mNil)))
def M_pick_2 : MS := (mFor (mItR1 (mCons (mCb fMin (mCons (mCb fInt (mCons (mVar 2) mNil)) (mCons (mCb fLen (mCons (mVar 3) mNil)) mNil))) mNil)) (tgName 5) M_pick_1)
def M_pick_3 : MS := (mRet (mVar 4))
def M_pick : MF := mDef 3 6
  (mSeq M_pick_0
  (mSeq M_pick_2
  M_pick_3))
def M_ascending_0 : MS := (mSetC 1 (mLst mNil))
def M_ascending_1 : MS := (mSet 3 (mCb fLen (mCons (mVar 1) mNil)))
def M_ascending_2 : MS := (mSet 3 (mOp fSub (mVar 3) (mC (.int 1))))
def M_ascending_c3 : MT := (mtAnd (mB (mOp fGtI (mVar 3) (mC (.int 0)))) (mB (mOp fLt (mVar 2) (mOp fIx (mVar 1) (mOp fSub (mVar 3) (mC (.int 1)))))))
def M_ascending_4 : MS := (wh M_ascending_c3 M_ascending_2 1000)
def M_ascending_5 : MS := (mDrop (mBm fInsert (mVar 1) (mCons (mVar 3) (mCons (mVar 2) mNil))))
def M_ascending_b6 : MS := (mSeq M_ascending_1
  (mSeq M_ascending_4
  M_ascending_5))
def M_ascending_7 : MS := (mFor (mIt (mVar 0)) (tgName 2) M_ascending_b6)
def M_ascending_8 : MS := (mRet (mVar 1))
def M_ascending : MF := mDef 1 4
  (mSeq M_ascending_0
  (mSeq M_ascending_7
  M_ascending_8))
def M_subsets_0 : MS := (mSet 1 (mLst (mCons (mTup mNil) mNil)))
def M_subsets_e1 : ME := (mOp fAdd (mVar 3) (mTup (mCons (mVar 2) mNil)))
def M_subsets_2 : MS := (mSet 1 (mOp fAdd (mVar 1) (mLc (mIt (mVar 1)) (tgName 3) mYes M_subsets_e1 [3])))
def M_subsets_3 : MS := (mFor (mIt (mVar 0)) (tgName 2) M_subsets_2)
def M_subsets_4 : MS := (mRet (mVar 1))
def M_subsets : MF := mDef 1 4
  (mSeq M_subsets_0
  (mSeq M_subsets_3
  M_subsets_4))
/-! ### the source of draws -/
def Bx (c : Int) (b : List D) : Prop := ∃ x y z : Int, b = [.int x, .int y, .int z] ∧ 0 ≤ z ∧ z ≤ c ∧ 0 ≤ y ∧ y < 4611686018427387904
theorem cMul_l {i j : Int} (h1 : -18446744073709551616 < i) (h2 : i < 18446744073709551616) : cMul i j = true := by
  unfold cMul
  rw [Bool.or_eq_true_iff]
  exact .inl (decide_eq_true ⟨h1, h2⟩)
theorem cMul_r {i j : Int} (h1 : -18446744073709551616 < j) (h2 : j < 18446744073709551616) : cMul i j = true := by
  unfold cMul
  rw [Bool.or_eq_true_iff]
  exact .inr (decide_eq_true ⟨h1, h2⟩)
theorem take_ok {b : List D} {c n : Int} (hb : Bx c b) (hc : c < 1099511627776) (h0 : 0 < n) (h1 : n < 1073741824) : ∃ (r : Int) (b' : List D), 0 ≤ r ∧ r < n ∧ Bx (c + 1) b' ∧ M_take [.cel 0, .dat (.int n)] [b] = some (.dat (.int r), [b']) := by
  obtain ⟨x, y, z, rfl, hz, hz2, hy, hy2⟩ := hb
  by_cases hx : 0 < x
  · refine ⟨x % n, [.int (x / n), .int y, .int z], Int.emod_nonneg _ (by omega), Int.emod_lt_of_pos _ h0, ⟨_, _, _, rfl, hz, by omega, hy, hy2⟩, ?_⟩
    simp [M_take, M_take_0, M_take_1, M_take_2, M_take_3, M_take_4, M_take_5, M_take_6, M_take_7, M_take_8, atI, ixN, hx, h0, h1]
  · have q1 : cMul 48271 (z + 1) = true := cMul_l (by omega) (by omega)
    have q2 : cMul (y + 48271 * (z + 1)) (39373 + (z + 1)) = true := cMul_r (by omega) (by omega)
    have q3 : ∀ i k : Int, cMul i (k % 40009 + 7) = true := fun i k => cMul_r (by omega) (by omega)
    have q4 : ∀ k : Int, cMul (k % 2147483629) 48271 = true := fun k => cMul_r (by omega) (by omega)
    have key : ∃ v : Int, M_take [.cel 0, .dat (.int n)] [[.int x, .int y, .int z]] = some (.dat (.int (v % n)), [[.int x, .int y, .int (z + 1)]]) := by
      generalize ho : (y + 48271 * (z + 1)) * (39373 + (z + 1)) % 2147483647 = o
      generalize ht : (o + (z + 1) + y / 1000003) * (o % 40009 + 7) % 2147483629 = t
      have q4' : cMul t 48271 = true := by
        rw [← ht]
        exact q4 _
      exact ⟨(t * 48271 + o) % 2147483587 / 64, by simp [M_take, M_take_0, M_take_1, M_take_2, M_take_3, M_take_4, M_take_5, M_take_6, M_take_7, M_take_8, atI, ixN, hx, h0, h1, q1, q2, q3, q4', ho, ht]⟩
    obtain ⟨v, key⟩ := key
    exact ⟨v % n, _, Int.emod_nonneg _ (by omega), Int.emod_lt_of_pos _ h0, ⟨x, y, z + 1, rfl, by omega, by omega, hy, hy2⟩, key⟩
theorem of_ok {b xs : List D} {c : Int} (hb : Bx c b) (hc : c < 1099511627776) (h0 : xs ≠ []) (h1 : xs.length ≤ 100000) : ∃ (d : D) (b' : List D), d ∈ xs ∧ Bx (c + 1) b' ∧ M_of [.cel 0, .dat (.lst xs)] [b] = some (.dat d, [b']) := by
  have hp : 0 < xs.length := List.length_pos_iff.mpr h0
  obtain ⟨r, b', q1, q2, q3, q4⟩ := take_ok hb hc (n := (xs.length : Int)) (by omega) (by omega)
  have hr : r.toNat < xs.length := by omega
  refine ⟨xs[r.toNat], b', List.getElem_mem hr, q3, ?_⟩
  simp [M_of, M_of_0, q4, atI, ixN, q1, q2, hr]
theorem box_ok {ns : List Int} {k : Nat} (hk : k ≤ 1000) : ∃ b, Bx 0 b ∧ M_box [.dat (.lst (ns.map D.int)), .dat (.int k)] [] = some (.fr b, []) := by
  have q1 : ∀ v : Int, cMul v (if 1000000000000000000 ≤ v then 1 else 0) = true := fun v => cMul_r (by split <;> omega) (by split <;> omega)
  have q2 : cMul 39373 (k : Int) = true := cMul_l (by omega) (by omega)
  by_cases h : k < ns.length
  · refine ⟨[.int ((if ns[k] < 0 then -ns[k] else ns[k]) * if (1000000000000000000 : Int) ≤ (if ns[k] < 0 then -ns[k] else ns[k]) then 1 else 0), .int (ns[k] % 2305843009213693951 + 39373 * (k : Int) + 293), .int 0], ⟨_, _, _, rfl, by omega, by omega, by omega, by omega⟩, ?_⟩
    simp [M_box, M_box_0, M_box_1, atI, ixN, h, q1, q2]
  · refine ⟨[.int 0, .int (0 % 2305843009213693951 + 39373 * (k : Int) + 293), .int 0], ⟨_, _, _, rfl, by omega, by omega, by omega, by omega⟩, ?_⟩
    have q3 : cMul 0 0 = true := by decide
    simp [M_box, M_box_0, M_box_1, atI, ixN, h, q1, q2, q3]
/-! ### lists of ints -/
def cutI (xs : List Int) (lo hi : Option Int) : List Int := (xs.drop (HT.sIx xs.length 0 lo)).take (HT.sIx xs.length xs.length hi - HT.sIx xs.length 0 lo)
theorem cut_ints (ns : List Int) (lo hi : Option Int) : cutD (ns.map D.int) lo hi = (cutI ns lo hi).map D.int := by
  unfold cutD cutI
  rw [List.length_map, List.map_take, List.map_drop]
theorem ints_get (ns : List Int) (i : Nat) : (ns.map D.int)[i]? = (ns[i]?).map D.int := by
  rw [List.getElem?_map]
theorem ints_set (ns : List Int) (i : Nat) (v : Int) : (ns.map D.int).set i (.int v) = (ns.set i v).map D.int := by
  rw [List.map_set]
theorem ixN_nat {n i : Nat} (h : i < n) : ixN n (i : Int) = some i := by
  unfold ixN
  rw [if_pos (by omega), if_pos (by omega)]
  simp
theorem atI_nat' {β : Type} {xs : List β} {i : Nat} (h : i < xs.length) : atI xs (i : Int) = some xs[i] := by
  unfold atI
  rw [ixN_nat h]
  exact List.getElem?_eq_getElem h
theorem atI_int {rows : List Int} {i : Nat} (h : i < rows.length) : atI (rows.map D.int) (i : Int) = some (.int rows[i]) := by
  rw [atI_nat' (by rw [List.length_map]; exact h), List.getElem_map]
theorem loop_nil {t : TGT} {mb : MS} {δ : Sl} {μ : Mu} : loop yes t mb [] δ μ = some (.nx δ μ) := rfl
theorem loop_cons {t : TGT} {mb : MS} {x : D} {xs : List D} {δ δ1 δ2 : Sl} {μ μ2 : Mu} (h1 : t x δ = some δ1) (h2 : mb δ1 μ = some (.nx δ2 μ2)) : loop yes t mb (x :: xs) δ μ = loop yes t mb xs δ2 μ2 := by
  simp [loop, h1, h2]
theorem loop_ret {t : TGT} {mb : MS} {x : D} {xs : List D} {δ δ1 : Sl} {μ μ2 : Mu} {r : R} (h1 : t x δ = some δ1) (h2 : mb δ1 μ = some (.rt r μ2)) : loop yes t mb (x :: xs) δ μ = some (.rt r μ2) := by
  simp [loop, h1, h2]
theorem cells_loop {most : Nat} (hm : 0 < most) (sc : R) : ∀ (tail : List Int) (j : Nat) (rows : List Int) (a b c : R), j + tail.length ≤ 1000 → rows.length = most →
    ∃ (rows' : List Int) (a' b' c' : R), rows'.length = most ∧ loop yes (tgPair 3 4) M_cells_b3 (enumD j (tail.map D.int)) [sc, .dat (.int most), .cel 0, a, b, c] [rows.map D.int] = some (.nx [sc, .dat (.int most), .cel 0, a', b', c'] [rows'.map D.int])
  | [], j, rows, a, b, c, _, hr => ⟨rows, a, b, c, hr, loop_nil⟩
  | v :: tail, j, rows, a, b, c, hj, hr => by
    have hj' : j + 1 + tail.length ≤ 1000 := by
      rw [List.length_cons] at hj
      omega
    have hat : j % most < rows.length := by rw [hr]; exact Nat.mod_lt _ hm
    have e1 : ((j : Int) % (most : Int)) = ((j % most : Nat) : Int) := (Int.natCast_emod j most).symm
    have q1 : cMul v ((j : Int) + 2) = true := cMul_r (by omega) (by omega)
    obtain ⟨rows', a', b', c', h1, h2⟩ := cells_loop hm sc tail (j + 1) (rows.set (j % most) (rows[j % most] + v * ((j : Int) + 2))) (.dat (.int j)) (.dat (.int v)) (.dat (.int ((j : Int) % (most : Int)))) hj' (by rw [List.length_set]; exact hr)
    refine ⟨rows', a', b', c', h1, ?_⟩
    rw [← h2]
    have e2 := atI_int hat
    have e3 := ixN_nat hat
    rw [← e1] at e2 e3
    refine loop_cons (δ1 := [sc, .dat (.int most), .cel 0, .dat (.int j), .dat (.int v), c]) rfl ?_
    simp [M_cells_b3, M_cells_1, M_cells_2, hm, e2, e3, q1]
theorem cells_ok {ns : List Int} {most : Nat} (hm : 0 < most) (hm2 : most ≤ 60) (hn : ns.length ≤ 63) : ∃ ms : List Int, ms ≠ [] ∧ ms.length ≤ most ∧ M_cells [.dat (.scr ns), .dat (.int most)] [] = some (.fr (ms.map D.int), []) := by
  have c1 : cutI ns none (some (most : Int)) = ns.take most := by
    unfold cutI
    rw [HT.sIx_none, HT.sIx_nat, List.drop_zero, Nat.sub_zero]
    by_cases h : most ≤ ns.length
    · rw [Nat.min_eq_left h]
    · rw [Nat.min_eq_right (by omega), List.take_length, List.take_of_length_le (by omega)]
  have c2 : cutI ns (some (most : Int)) (some 63) = ns.drop most := by
    unfold cutI
    rw [HT.sIx_nat, show HT.sIx ns.length ns.length (some 63) = min 63 ns.length from HT.sIx_nat ns.length ns.length 63, Nat.min_eq_right hn]
    by_cases h : most ≤ ns.length
    · rw [Nat.min_eq_left h, List.take_of_length_le (by rw [List.length_drop]; exact Nat.le_refl _)]
    · rw [Nat.min_eq_right (by omega), List.drop_length, List.drop_eq_nil_of_le (by omega), List.take_nil]
  -- the rows at first
  obtain ⟨rows, hr1, hr2, hr3⟩ : ∃ rows : List Int, rows ≠ [] ∧ (ns.drop most = [] → rows.length ≤ most) ∧ (ns.drop most ≠ [] → rows.length = most) ∧ M_cells_0 [.dat (.scr ns), .dat (.int most), .no, .no, .no, .no] [] = some (.nx [.dat (.scr ns), .dat (.int most), .cel 0, .no, .no, .no] [rows.map D.int]) := by
    cases hq : ns with
    | nil => exact ⟨[0], by simp, fun _ => by simp; omega, fun z => absurd (by simp) z, by simp [M_cells_0, cutD]⟩
    | cons n0 nr =>
      rw [← hq]
      have hl : (ns.take most).length = min most ns.length := List.length_take
      have hp : 0 < ns.length := by rw [hq, List.length_cons]; omega
      have hne : ns.take most ≠ [] := fun z => by
        rw [z] at hl
        simp at hl
        omega
      have hc : ∃ x r, ns.take most = x :: r := List.exists_cons_of_ne_nil hne
      obtain ⟨x, r, hx⟩ := hc
      refine ⟨ns.take most, hne, fun _ => by omega, fun z => ?_, ?_⟩
      · have : most < ns.length := by
          apply Classical.byContradiction
          intro h
          exact z (List.drop_eq_nil_of_le (by omega))
        omega
      · simp only [M_cells_0, mSetC, mOr, mCb, mCons, mSl, mVar, mNo, mSo, mNil, mLst, mC, List.getElem?_cons_zero, List.getElem?_cons_succ, sqOf, fList, froz, cut_ints, c1]
        simp [hx]
  obtain ⟨hr3, hr4⟩ := hr3
  have fin : ∀ (rows' : List Int) (a b c : R), loop yes (tgPair 3 4) M_cells_b3 (enumD 0 ((ns.drop most).map D.int)) [.dat (.scr ns), .dat (.int most), .cel 0, .no, .no, .no] [rows.map D.int] = some (.nx [.dat (.scr ns), .dat (.int most), .cel 0, a, b, c] [rows'.map D.int]) → M_cells [.dat (.scr ns), .dat (.int most)] [] = some (.fr (rows'.map D.int), []) := by
    intro rows' a b c h
    have h4 : M_cells_4 [.dat (.scr ns), .dat (.int most), .cel 0, .no, .no, .no] [rows.map D.int] = some (.nx [.dat (.scr ns), .dat (.int most), .cel 0, a, b, c] [rows'.map D.int]) := by
      simpa [M_cells_4, cut_ints, c2] using h
    simp [M_cells, hr4, h4, M_cells_5]
  by_cases h0 : ns.drop most = []
  · refine ⟨rows, hr1, hr2 h0, fin rows .no .no .no ?_⟩
    rw [h0]
    rfl
  · obtain ⟨rows', a', b', c', h1, h2⟩ := cells_loop (most := most) hm (.dat (.scr ns)) (ns.drop most) 0 rows .no .no .no (by rw [List.length_drop]; omega) (hr3 h0)
    refine ⟨rows', fun z => ?_, by omega, fin rows' a' b' c' h2⟩
    rw [z] at h1
    simp at h1
    omega
end DL
set_option Elab.async false
set_option linter.all false
set_option maxRecDepth 100000
set_option maxHeartbeats 1000000
namespace DL
open PySem L2
/-! ### comprehensions whose elements change nothing -/
theorem lc_fil {t : TGT} {mt : MT} {me : ME} {δ : Sl} {μ : Mu} {p : D → Bool} {g : D → D} : ∀ (xs acc : List D), acc.length + xs.length ≤ 100000 →
    (∀ d ∈ xs, ∃ δ1, t d δ = some δ1 ∧ mt δ1 μ = some (p d, μ) ∧ (p d = true → ∃ r, me δ1 μ = some (r, μ) ∧ toD r = some (g d))) → lcLoop yes t mt me δ xs acc μ = some (acc ++ (xs.filter p).map g, μ)
  | [], acc, _, _ => by simp [lcLoop]
  | x :: xs, acc, hl, h => by
    obtain ⟨δ1, h1, h2, h3⟩ := h x List.mem_cons_self
    rw [List.length_cons] at hl
    cases hp : p x with
    | false =>
      have ih := lc_fil (p := p) (g := g) xs acc (by omega) fun d hd => h d (List.mem_cons_of_mem _ hd)
      rw [hp] at h2
      simp [lcLoop, h1, h2, ih, hp]
    | true =>
      obtain ⟨r, h4, h5⟩ := h3 hp
      have ih := lc_fil (p := p) (g := g) xs (acc ++ [g x]) (by rw [List.length_append]; simp; omega) fun d hd => h d (List.mem_cons_of_mem _ hd)
      rw [hp] at h2
      have hl2 : acc.length < 100000 := by omega
      simp only [lcLoop, yes, if_true, h1, h2, h4, h5, hl2]
      rw [ih, List.filter_cons_of_pos hp, List.map_cons, List.append_assoc]
      rfl
theorem lc_map {t : TGT} {me : ME} {δ : Sl} {μ : Mu} {g : D → D} (xs : List D) (hl : xs.length ≤ 100000)
    (h : ∀ d ∈ xs, ∃ δ1, t d δ = some δ1 ∧ ∃ r, me δ1 μ = some (r, μ) ∧ toD r = some (g d)) : lcLoop yes t mYes me δ xs [] μ = some (xs.map g, μ) := by
  have := lc_fil (t := t) (mt := mYes) (me := me) (δ := δ) (μ := μ) (p := fun _ => true) (g := g) xs [] (by simpa using hl) fun d hd => by
    obtain ⟨δ1, h1, h2⟩ := h d hd
    exact ⟨δ1, h1, rfl, fun _ => h2⟩
  rw [this, List.nil_append, List.filter_eq_self.mpr (fun _ _ => rfl)]
theorem blsOf_map' {α : Type} (f : α → Bool) : ∀ l : List α, blsOf (l.map fun x => D.bl (f x)) = some (l.map f)
  | [] => rfl
  | x :: l => by simp [blsOf, blsOf_map' f l]
theorem intsOf_ints : ∀ ns : List Int, intsOf (ns.map D.int) = some ns
  | [] => rfl
  | n :: ns => by simp [intsOf, intsOf_ints ns]
/-! ### the same again -/
def okD : Nat → D → Bool
  | 0, _ => false
  | j + 1, d => match d with
    | .non => true
    | .bl _ => true
    | .int _ => true
    | .str _ => true
    | .tup xs => decide (xs.length ≤ 1000) && xs.all (okD j)
    | .lst xs => decide (xs.length ≤ 1000) && xs.all (okD j)
    | _ => false
theorem pairs_self : ∀ xs : List D, pairsD xs xs = xs.map fun x => .tup [x, x]
  | [] => rfl
  | x :: xs => by simp [pairsD, pairs_self xs]
theorem same_seq {j : Nat} {xs : List D} {a b : R} (hl : xs.length ≤ 1000) (ih : ∀ d ∈ xs, M_same j [.dat d, .dat d] [] = some (.dat (.bl true), [])) :
    lcLoop yes (tgPair 2 3) mYes (M_same_e2 (M_same j)) [a, b, .no, .no] (pairsD xs xs) [] [] = some (xs.map (fun _ => .bl true), []) := by
  rw [pairs_self, lc_map (g := fun _ => .bl true) (xs.map fun x => .tup [x, x]) (by rw [List.length_map]; omega) fun d hd => ?_]
  · rw [List.map_map]
    rfl
  · obtain ⟨x, hx, rfl⟩ := List.mem_map.mp hd
    exact ⟨_, rfl, .dat (.bl true), by simp [M_same_e2, ih x hx], rfl⟩
theorem same_refl : ∀ (j : Nat) (d : D), okD j d = true → M_same j [.dat d, .dat d] [] = some (.dat (.bl true), [])
  | 0, _, h => by cases h
  | j + 1, .non, _ => by
    have a : SeqAt.shaped PyData.none = true := by decide +kernel
    have b : PyData.eqv .none .none = true := by decide +kernel
    simp [M_same, M_same_4, M_same_6, M_same_5, isB, rPy, toPy, a, b]
  | j + 1, .bl b, _ => by simp [M_same, M_same_4, M_same_6, M_same_5, isB]
  | j + 1, .int i, _ => by simp [M_same, M_same_4, M_same_6, M_same_7, isB]
  | j + 1, .str x, _ => by simp [M_same, M_same_4, M_same_6, M_same_5, isB]
  | j + 1, .tup xs, h => by
    simp only [okD, Bool.and_eq_true, decide_eq_true_eq, List.all_eq_true] at h
    have q := same_seq (a := .dat (.tup xs)) (b := .dat (.tup xs)) h.1 fun d hd => same_refl j d (h.2 d hd)
    have q2 : blsOf (xs.map (fun _ => D.bl true)) = some (xs.map fun _ => true) := blsOf_map' (fun _ => true) xs
    simp [M_same, M_same_4, M_same_1, M_same_3, isB, q, q2]
  | j + 1, .lst xs, h => by
    simp only [okD, Bool.and_eq_true, decide_eq_true_eq, List.all_eq_true] at h
    have q := same_seq (a := .dat (.lst xs)) (b := .dat (.lst xs)) h.1 fun d hd => same_refl j d (h.2 d hd)
    have q2 : blsOf (xs.map (fun _ => D.bl true)) = some (xs.map fun _ => true) := blsOf_map' (fun _ => true) xs
    simp [M_same, M_same_4, M_same_1, M_same_3, isB, q, q2]
  | j + 1, .scr _, h => by cases h
  | j + 1, .ins _ _, h => by cases h
/-! ### picking -/
theorem perm_erase : ∀ (l : List D) (j : Nat) (h : j < l.length), (l[j] :: l.eraseIdx j).Perm l
  | x :: l, 0, _ => .refl _
  | x :: l, j + 1, h => by
    have h' : j < l.length := by simpa using h
    have ih := perm_erase l j h'
    simp only [List.getElem_cons_succ, List.eraseIdx_cons_succ]
    exact (List.Perm.swap x l[j] _).trans (.cons x ih)
theorem pick_loop {x1 x2 : R} : ∀ (its rest found b : List D) (c : Int) (a : R), its.length ≤ rest.length → rest.length + found.length ≤ 90000 → Bx c b → c + its.length < 1099511627776 →
    ∃ (b' rest' found' : List D) (a' : R), Bx (c + its.length) b' ∧ found'.length = found.length + its.length ∧ (found' ++ rest').Perm (found ++ rest) ∧
      loop yes (tgName 5) M_pick_1 its [.cel 0, x1, x2, .cel 1, .cel 2, a] [b, rest, found] = some (.nx [.cel 0, x1, x2, .cel 1, .cel 2, a'] [b', rest', found'])
  | [], rest, found, b, c, a, _, _, hb, _ => ⟨b, rest, found, a, by simpa using hb, by simp, .refl _, loop_nil⟩
  | i :: its, rest, found, b, c, a, h1, h2, hb, hc => by
    rw [List.length_cons] at h1 hc
    obtain ⟨r, b1, q1, q2, q3, q4⟩ := take_ok hb (by omega) (n := (rest.length : Int)) (by omega) (by omega)
    obtain ⟨j, rfl⟩ : ∃ j : Nat, r = (j : Int) := ⟨r.toNat, by omega⟩
    have hj : j < rest.length := by omega
    have hp : (found ++ [rest[j]] ++ rest.eraseIdx j).Perm (found ++ rest) := by
      rw [List.append_assoc]
      exact List.Perm.append_left _ (perm_erase rest j hj)
    have hl : (rest.eraseIdx j).length = rest.length - 1 := List.length_eraseIdx_of_lt hj
    obtain ⟨b', rest', found', a', g1, g2, g3, g4⟩ := pick_loop its (rest.eraseIdx j) (found ++ [rest[j]]) b1 (c + 1) (.dat i) (by omega) (by rw [List.length_append, hl]; simp; omega) q3 (by omega)
    refine ⟨b', rest', found', a', ?_, ?_, g3.trans hp, ?_⟩
    · rw [List.length_cons]
      have : c + ((its.length + 1 : Nat) : Int) = c + 1 + (its.length : Int) := by omega
      rw [this]
      exact g1
    · rw [g2, List.length_append, List.length_cons]
      simp
      omega
    · rw [← g4]
      refine loop_cons rfl ?_
      have e3 := ixN_nat hj
      have l1 : rest.length ≤ 100000 := by omega
      have l2 : found.length < 100000 := by omega
      simp [M_pick_1, q4, e3, hj, l1, l2]
theorem rgD_len (a b : Int) : (rgD a b).length = (b - a).toNat := by
  unfold rgD
  rw [List.length_map, List.length_range]
theorem pick_ok {b xs : List D} {c many : Int} (hb : Bx c b) (hc : c < 1000000000) (h0 : 0 ≤ many) (hl : xs.length ≤ 10000) : ∃ (ys rest b' : List D), Bx (c + xs.length) b' ∧ ys.length = min many.toNat xs.length ∧ (ys ++ rest).Perm xs ∧
    M_pick [.cel 0, .dat (.lst xs), .dat (.int many)] [b] = some (.fr ys, [b']) := by
  obtain ⟨b', rest', found', a', g1, g2, g3, g4⟩ := pick_loop (x1 := .dat (.lst xs)) (x2 := .dat (.int many)) (rgD 0 (if (xs.length : Int) < many then (xs.length : Int) else many)) xs [] b c .no (by rw [rgD_len]; split <;> omega) (by simp; omega) hb (by rw [rgD_len]; split <;> omega)
  rw [rgD_len] at g1 g2
  obtain ⟨x, y, z, e1, e2, e3, e4⟩ := id g1
  refine ⟨found', rest', b', ⟨x, y, z, e1, e2, by revert e3; split <;> (intro e3; omega), e4⟩, by rw [g2]; simp; split <;> omega, by simpa using g3, ?_⟩
  have l1 : -4611686018427387904 ≤ (if (xs.length : Int) < many then (xs.length : Int) else many) := by split <;> omega
  have l2 : (if (xs.length : Int) < many then (xs.length : Int) else many) < 4611686018427387904 := by split <;> omega
  have q0 : M_pick_0 [.cel 0, .dat (.lst xs), .dat (.int many), .no, .no, .no] [b] = some (.nx [.cel 0, .dat (.lst xs), .dat (.int many), .cel 1, .cel 2, .no] [b, xs, []]) := by
    simp [M_pick_0]
  have q2 : M_pick_2 [.cel 0, .dat (.lst xs), .dat (.int many), .cel 1, .cel 2, .no] [b, xs, []] = some (.nx [.cel 0, .dat (.lst xs), .dat (.int many), .cel 1, .cel 2, a'] [b', rest', found']) := by
    simp only [M_pick_2, mFor, mItR1, mCons, mCb, mNil, mVar, fInt, fLen, fMin, froz, sqOf, lstOf, List.getElem?_cons_zero, List.getElem?_cons_succ, Option.map_some, Sq.all]
    simp [l1, l2, g4]
  simp [M_pick, q0, q2, M_pick_3]
/-! ### ascending ints -/
theorem asc_while {x0 : R} {row : Int} {found : List Int} (μ : Mu) (hμ : μ = [found.map D.int]) : ∀ (place n : Nat), place ≤ found.length → place < n → ∃ p : Nat, p ≤ place ∧ (0 < p → ∀ h : p - 1 < found.length, found[p - 1] ≤ row) ∧ (∀ i, p ≤ i → i < place → ∀ h : i < found.length, row < found[i]) ∧
    wh M_ascending_c3 M_ascending_2 n [x0, .cel 0, .dat (.int row), .dat (.int (place : Int))] μ = some (.nx [x0, .cel 0, .dat (.int row), .dat (.int (p : Int))] μ)
  | 0, n + 1, h1, h2 => ⟨0, Nat.le_refl _, fun z => absurd z (by omega), fun i h3 h4 => absurd h4 (by omega), by simp [wh, M_ascending_c3]⟩
  | place + 1, n + 1, h1, h2 => by
    have hp : place < found.length := by omega
    have e1 : ((place + 1 : Nat) : Int) - 1 = (place : Int) := by omega
    have e2 := atI_int hp
    have e3 : (0 : Int) < ((place + 1 : Nat) : Int) := by omega
    by_cases hr : row < found[place]
    · obtain ⟨p, g1, g2, g3, g4⟩ := asc_while μ hμ place n (by omega) (by omega)
      refine ⟨p, by omega, g2, fun i h3 h4 h5 => ?_, ?_⟩
      · by_cases hi : i = place
        · subst hi
          exact hr
        · exact g3 i h3 (by omega) h5
      · rw [← g4]
        have q1 : M_ascending_c3 [x0, .cel 0, .dat (.int row), .dat (.int ((place + 1 : Nat) : Int))] μ = some (true, μ) := by
          subst hμ
          simp only [M_ascending_c3, mtAnd, mB, mOp, mVar, mC, List.getElem?_cons_zero, List.getElem?_cons_succ, fI, e3, decide_true, if_true, fIx, sqOf, lstOf, Option.map_some, Sq.all, e1, e2, fLt, hr]
        have q2 : M_ascending_2 [x0, .cel 0, .dat (.int row), .dat (.int ((place + 1 : Nat) : Int))] μ = some (.nx [x0, .cel 0, .dat (.int row), .dat (.int (place : Int))] μ) := by
          simp only [M_ascending_2, mSet, mOp, mVar, mC, List.getElem?_cons_zero, List.getElem?_cons_succ, fI, if_true, e1, putR, List.set_cons_succ, List.set_cons_zero]
        simp only [wh, q1, q2]
    · refine ⟨place + 1, Nat.le_refl _, fun _ h => by simpa using Int.not_lt.mp hr, fun i h3 h4 => absurd h4 (by omega), ?_⟩
      have q1 : M_ascending_c3 [x0, .cel 0, .dat (.int row), .dat (.int ((place + 1 : Nat) : Int))] μ = some (false, μ) := by
        subst hμ
        simp only [M_ascending_c3, mtAnd, mB, mOp, mVar, mC, List.getElem?_cons_zero, List.getElem?_cons_succ, fI, e3, decide_true, if_true, fIx, sqOf, lstOf, Option.map_some, Sq.all, e1, e2, fLt, hr, decide_false]
      simp only [wh, q1]
theorem ins_sorted {found : List Int} {row : Int} {p : Nat} (hs : found.Pairwise (· ≤ ·)) (hp : p ≤ found.length) (h1 : 0 < p → ∀ h : p - 1 < found.length, found[p - 1] ≤ row) (h2 : ∀ i, p ≤ i → i < found.length → ∀ h : i < found.length, row < found[i]) :
    (found.take p ++ [row] ++ found.drop p).Pairwise (· ≤ ·) := by
  have hlow : ∀ y ∈ found.take p, y ≤ row := by
    intro y hy
    obtain ⟨i, hi, rfl⟩ := List.mem_iff_getElem.mp hy
    rw [List.length_take] at hi
    rw [List.getElem_take]
    have hp0 : 0 < p := by omega
    refine Int.le_trans ?_ (h1 hp0 (by omega))
    by_cases e : i = p - 1
    · subst e
      exact Int.le_refl _
    · exact List.pairwise_iff_getElem.mp hs i (p - 1) (by omega) (by omega) (by omega)
  have hhigh : ∀ y ∈ found.drop p, row ≤ y := by
    intro y hy
    obtain ⟨i, hi, rfl⟩ := List.mem_iff_getElem.mp hy
    rw [List.length_drop] at hi
    rw [List.getElem_drop]
    exact Int.le_of_lt (h2 (p + i) (by omega) (by omega) (by omega))
  rw [List.pairwise_append]
  refine ⟨?_, hs.sublist (List.drop_sublist _ _), fun x hx y hy => ?_⟩
  · rw [List.pairwise_append]
    exact ⟨hs.sublist (List.take_sublist _ _), List.pairwise_singleton _ _, fun x hx y hy => by rw [List.mem_singleton.mp hy]; exact hlow x hx⟩
  · rcases List.mem_append.mp hx with h | h
    · exact Int.le_trans (hlow x h) (hhigh y hy)
    · rw [List.mem_singleton.mp h]
      exact hhigh y hy
theorem asc_loop {x0 : R} : ∀ (its found : List Int) (a b : R), its.length + found.length < 900 → found.Pairwise (· ≤ ·) → ∃ (found' : List Int) (a' b' : R), found'.Perm (found ++ its) ∧ found'.Pairwise (· ≤ ·) ∧
    loop yes (tgName 2) M_ascending_b6 (its.map D.int) [x0, .cel 0, a, b] [found.map D.int] = some (.nx [x0, .cel 0, a', b'] [found'.map D.int])
  | [], found, a, b, _, hs => ⟨found, a, b, by simp, hs, loop_nil⟩
  | row :: its, found, a, b, hl, hs => by
    rw [List.length_cons] at hl
    obtain ⟨p, g1, g2, g3, g4⟩ := asc_while (x0 := x0) (row := row) (found := found) [found.map D.int] rfl found.length 1000 (Nat.le_refl _) (by omega)
    have hs' := ins_sorted hs g1 g2 fun i h3 _ h5 => g3 i h3 h5 h5
    have hpm : (found.take p ++ [row] ++ found.drop p).Perm (found ++ [row]) := by
      have := List.perm_append_comm (l₁ := [row]) (l₂ := found.drop p)
      have e : found ++ [row] = found.take p ++ (found.drop p ++ [row]) := by rw [← List.append_assoc, List.take_append_drop]
      rw [e, List.append_assoc]
      exact List.Perm.append_left _ this
    obtain ⟨found', a', b', k1, k2, k3⟩ := asc_loop its (found.take p ++ [row] ++ found.drop p) (.dat (.int row)) (.dat (.int (p : Int))) (by have := hpm.length_eq; rw [this, List.length_append]; simp; omega) hs'
    refine ⟨found', a', b', ?_, k2, ?_⟩
    · refine k1.trans ?_
      have e : found ++ row :: its = (found ++ [row]) ++ its := by simp
      rw [e]
      exact List.Perm.append_right _ hpm
    · rw [← k3]
      refine loop_cons (δ1 := [x0, .cel 0, .dat (.int row), b]) rfl ?_
      have l1 : found.length < 100000 := by omega
      have l2 : (p : Int) ≤ 100000 := by omega
      have q1 : M_ascending_1 [x0, .cel 0, .dat (.int row), b] [found.map D.int] = some (.nx [x0, .cel 0, .dat (.int row), .dat (.int (found.length : Int))] [found.map D.int]) := by simp [M_ascending_1]
      have q4 : M_ascending_4 [x0, .cel 0, .dat (.int row), .dat (.int (found.length : Int))] [found.map D.int] = some (.nx [x0, .cel 0, .dat (.int row), .dat (.int (p : Int))] [found.map D.int]) := g4
      have q5 : M_ascending_5 [x0, .cel 0, .dat (.int row), .dat (.int (p : Int))] [found.map D.int] = some (.nx [x0, .cel 0, .dat (.int row), .dat (.int (p : Int))] [(found.take p ++ [row] ++ found.drop p).map D.int]) := by
        have l3 : (p : Int) ≤ 100000 ↔ p ≤ 100000 := by omega
        have l4 : p ≤ 100000 := by omega
        simp [M_ascending_5, l1, l2, l3, l4]
      simp only [M_ascending_b6, mSeq, q1, q4, q5]
theorem asc_ok {ns : List Int} (hl : ns.length < 900) : ∃ ms : List Int, ms.Perm ns ∧ ms.Pairwise (· ≤ ·) ∧ M_ascending [.dat (.lst (ns.map D.int))] [] = some (.fr (ms.map D.int), []) := by
  obtain ⟨ms, a, b, h1, h2, h3⟩ := asc_loop (x0 := .dat (.lst (ns.map D.int))) ns [] .no .no (by simp; omega) List.Pairwise.nil
  refine ⟨ms, by simpa using h1, h2, ?_⟩
  simp only [List.map_nil] at h3
  have q7 : M_ascending_7 [.dat (.lst (ns.map D.int)), .cel 0, .no, .no] [[]] = some (.nx [.dat (.lst (ns.map D.int)), .cel 0, a, b] [ms.map D.int]) := by
    simp [M_ascending_7, h3]
  simp [M_ascending, M_ascending_0, q7, M_ascending_8]
end DL
set_option Elab.async false
set_option linter.all false
set_option maxRecDepth 100000
set_option maxHeartbeats 1000000
namespace DL
open PySem L2
theorem toPys_ints : ∀ ns : List Int, toPys (ns.map D.int) = some (ns.map PyData.int)
  | [] => rfl
  | n :: ns => by simp [toPys, toPy, toPys_ints ns]
theorem canLay_ints : ∀ ns : List Int, PyData.canLayAll0 (ns.map PyData.int) = true
  | [] => rfl
  | n :: ns => by simp [PyData.canLayAll0, PyData.canLay0, canLay_ints ns]
theorem depth_ints : ∀ ns : List Int, PyData.depthAll (ns.map PyData.int) = 0
  | [] => rfl
  | n :: ns => by simp [PyData.depthAll, PyData.depth, depth_ints ns]
theorem shaped_ints (ns : List Int) : SeqAt.shaped (.list (ns.map PyData.int)) = true := by
  simp [SeqAt.shaped, PyData.canLay0, canLay_ints, PyData.depth, depth_ints]
theorem eqv_nil : ∀ ns : List Int, PyData.eqv (.list (ns.map PyData.int)) (.list []) = ns.isEmpty
  | [] => by simp [PyData.eqv, PyData.eqvAll]
  | n :: ns => by simp [PyData.eqv, PyData.eqvAll]
theorem eq_nil (neg : Bool) (ns : List Int) (μ : Mu) : fEq neg (.fr (ns.map D.int)) (.fr []) μ = some (.dat (.bl (xor neg ns.isEmpty))) := by
  have h1 : rPy (.fr (ns.map D.int)) μ = some (.list (ns.map PyData.int)) := by simp [rPy, toPys_ints]
  have h2 : rPy (.fr []) μ = some (.list []) := by simp [rPy, toPys]
  have h3 := shaped_ints ns
  have h4 : SeqAt.shaped (.list []) = true := shaped_ints []
  simp [fEq, h1, h2, h3, h4, eqv_nil]
/-! ### ranges -/
def rgI (a b : Int) : List Int := (List.range (b - a).toNat).map fun i => a + (i : Nat)
theorem rgD_ints (a b : Int) : rgD a b = (rgI a b).map D.int := by
  unfold rgD rgI
  rw [List.map_map]
  rfl
theorem rgI_len (a b : Int) : (rgI a b).length = (b - a).toNat := by
  unfold rgI
  rw [List.length_map, List.length_range]
theorem mem_rgI {a b x : Int} : x ∈ rgI a b ↔ a ≤ x ∧ x < b := by
  unfold rgI
  rw [List.mem_map]
  constructor
  · rintro ⟨i, hi, rfl⟩
    rw [List.mem_range] at hi
    omega
  · rintro ⟨h1, h2⟩
    exact ⟨(x - a).toNat, by rw [List.mem_range]; omega, by omega⟩
theorem rgI_split {a b c : Int} (h1 : a ≤ c) (h2 : c < b) : rgI a b = rgI a c ++ c :: rgI (c + 1) b := by
  apply List.ext_getElem
  · simp only [List.length_append, List.length_cons, rgI_len]
    omega
  · intro i h3 h4
    rw [rgI_len] at h3
    by_cases h : i < (c - a).toNat
    · rw [List.getElem_append_left (by rw [rgI_len]; exact h)]
      simp [rgI]
    · rw [List.getElem_append_right (by rw [rgI_len]; omega)]
      simp only [rgI_len]
      by_cases e : i - (c - a).toNat = 0
      · simp only [e, List.getElem_cons_zero, rgI, List.getElem_map, List.getElem_range]
        omega
      · obtain ⟨j, hj⟩ : ∃ j, i - (c - a).toNat = j + 1 := ⟨i - (c - a).toNat - 1, by omega⟩
        simp only [hj, List.getElem_cons_succ, rgI, List.getElem_map, List.getElem_range]
        omega
theorem rgI_nodup (a b : Int) : (rgI a b).Nodup := by
  unfold rgI
  refine List.Pairwise.map _ (fun x y h => ?_) List.nodup_range
  omega
/-! ### tuples for lists -/
def T_e0 (r : MF) : ME := (mCall (callX r) (mCons (mVar 1) mNil))
def T_1 (r : MF) : MS := (mRet (mCb fTuple (mCons (mLc (mIt (mVar 0)) (tgName 1) mYes (T_e0 r) [1]) mNil)))
def T_2 (r : MF) : MS := (mIfS (mB (mIsi2 "list" "tuple" (mVar 0))) (T_1 r) mNx)
def T_3 (r : MF) : MS := (mRet (mVar 0))
def T_ : Nat → MF
  | 0 => fun _ _ => none
  | j + 1 => mDef 1 2 (mSeq (T_2 (T_ j))
      (T_3 (T_ j)))
theorem tup_int (j : Nat) (i : Int) : T_ (j + 1) [.dat (.int i)] [] = some (.dat (.int i), []) := by
  simp [T_, T_2, T_3, isB]
theorem tup_ints (j : Nat) (ns : List Int) (hl : ns.length ≤ 1000) : T_ (j + 2) [.dat (.tup (ns.map D.int))] [] = some (.dat (.tup (ns.map D.int)), []) := by
  have q : lcLoop yes (tgName 1) mYes (T_e0 (T_ (j + 1))) [.dat (.tup (ns.map D.int)), .no] (ns.map D.int) [] [] = some ((ns.map D.int).map id, []) :=
    lc_map (g := id) (ns.map D.int) (by rw [List.length_map]; omega) fun d hd => by
      obtain ⟨n, _, rfl⟩ := List.mem_map.mp hd
      exact ⟨_, rfl, .dat (.int n), by simp [T_e0, tup_int], rfl⟩
  rw [List.map_id] at q
  rw [T_]
  generalize T_ (j + 1) = r at q ⊢
  simp [T_2, T_1, isB, q]
theorem tup_lst (j : Nat) (ns : List Int) (hl : ns.length ≤ 1000) : T_ (j + 2) [.dat (.lst (ns.map D.int))] [] = some (.dat (.tup (ns.map D.int)), []) := by
  have q : lcLoop yes (tgName 1) mYes (T_e0 (T_ (j + 1))) [.dat (.lst (ns.map D.int)), .no] (ns.map D.int) [] [] = some ((ns.map D.int).map id, []) :=
    lc_map (g := id) (ns.map D.int) (by rw [List.length_map]; omega) fun d hd => by
      obtain ⟨n, _, rfl⟩ := List.mem_map.mp hd
      exact ⟨_, rfl, .dat (.int n), by simp [T_e0, tup_int], rfl⟩
  rw [List.map_id] at q
  rw [T_]
  generalize T_ (j + 1) = r at q ⊢
  simp [T_2, T_1, isB, q]
end DL
set_option Elab.async false
set_option linter.all false
set_option maxRecDepth 100000
set_option maxHeartbeats 4000000
namespace NS
open PySem PySem.Spec PyProof.Rows L2 DL
def topS (i : Nat) : Stmt := PySem.Challenge.pw_nearsame_k54_how_far_several_grids_reach.main.body.getD i (.Pass ⟨0, 0, 0, 0⟩)
abbrev s_tupled : Stmt := topS 1
def m_tupled_e0 (r : MF) : ME := (mCall (callX r) (mCons (mVar 1) mNil))
def m_tupled_1 (r : MF) : MS := (mRet (mCb fTuple (mCons (mLc (mIt (mVar 0)) (tgName 1) mYes (m_tupled_e0 r) [1]) mNil)))
def m_tupled_2 (r : MF) : MS := (mIfS (mB (mIsi2 "list" "tuple" (mVar 0))) (m_tupled_1 r) mNx)
def m_tupled_3 (r : MF) : MS := (mRet (mVar 0))
theorem sc_tupled : FnScope ["thing", "part"] ["thing"] (defScope s_tupled) := ⟨rfl, rfl, rfl, by decide +kernel, rfl, by decide +kernel, by decide +kernel⟩
def m_tupled : Nat → MF
  | 0 => fun _ _ => none
  | j + 1 => mDef 1 2 (mSeq (m_tupled_2 (m_tupled j))
      (m_tupled_3 (m_tupled j)))
abbrev s_is_torn : Stmt := topS 3
def m_is_torn_0 : MS := (mRet (mOp (fEq true) (mOp fDiv (mOp fSub (mOp fIx (mVar 0) (mC (.int 0))) (mVar 2)) (mVar 1)) (mOp fDiv (mOp fSub (mOp fIx (mVar 0) (mC (.int 1))) (mVar 2)) (mVar 1))))
theorem sc_is_torn : FnScope ["pair", "width", "start"] ["pair", "width", "start"] (defScope s_is_torn) := ⟨rfl, rfl, rfl, by decide +kernel, rfl, by decide +kernel, by decide +kernel⟩
def m_is_torn : MF := mDef 3 3
  m_is_torn_0
abbrev s_reach_of : Stmt := topS 4
def m_reach_of_0 : MS := (mSet 2 (mCall (callX (m_tupled 4)) (mCons (mVar 1) mNil)))
def m_reach_of_1 : MS := (mSet 3 (mOp fSub (mOp fAdd (mOp fIx (mVar 2) (mC (.int 0))) (mVar 0)) (mOp fIx (mVar 2) (mUn (fun i => -i) (mC (.int 1))))))
def m_reach_of_2 : MS := (mSet 3 (mCb fMax (mCons (mCb fInt (mCons (mVar 3) mNil)) (mCons (mCb fInt (mCons (mOp fSub (mVar 5) (mVar 4)) mNil)) mNil))))
def m_reach_of_3 : MS := (mFor (mItZ (mCons (mVar 2) (mCons (mSl (mVar 2) (mSo (mC (.int 1))) mNo) mNil))) (tgPair 4 5) m_reach_of_2)
def m_reach_of_4 : MS := (mRet (mOp fSub (mVar 0) (mVar 3)))
theorem sc_reach_of : FnScope ["width", "starts", "row", "wide", "one", "other"] ["width", "starts"] (defScope s_reach_of) := ⟨rfl, rfl, rfl, by decide +kernel, rfl, by decide +kernel, by decide +kernel⟩
def m_reach_of : MF := mDef 2 6
  (mSeq m_reach_of_0
  (mSeq m_reach_of_1
  (mSeq m_reach_of_3
  m_reach_of_4)))
abbrev s_missed_by : Stmt := topS 5
def m_missed_by_0 : MS := (mAsg (tgPair 2 3) (mTup (mCons (mCall (callX (m_tupled 4)) (mCons (mVar 1) mNil)) (mCons (mOp fAdd (mCall (callX m_reach_of) (mCons (mVar 0) (mCons (mVar 1) mNil))) (mC (.int 1))) mNil))))
def m_missed_by_e1 : ME := (mTup (mCons (mVar 5) (mCons (mOp fAdd (mVar 5) (mVar 3)) mNil)))
def m_missed_by_2 : MS := (mSet 4 (mLc (mItR1 (mCons (mVar 0) mNil)) (tgName 5) mYes m_missed_by_e1 [5]))
def m_missed_by_e3 : ME := (mCall (callX m_is_torn) (mCons (mVar 6) (mCons (mVar 0) (mCons (mVar 7) mNil))))
def m_missed_by_c4 : MT := (mB (mCb fAll (mCons (mLc (mIt (mVar 2)) (tgName 7) mYes m_missed_by_e3 [7]) mNil)))
def m_missed_by_e5 : ME := (mVar 6)
def m_missed_by_6 : MS := (mRet (mOp fIx (mLc (mIt (mVar 4)) (tgName 6) m_missed_by_c4 m_missed_by_e5 [6]) (mC (.int 0))))
theorem sc_missed_by : FnScope ["width", "starts", "row", "amount", "pairs", "one", "pair", "start"] ["width", "starts"] (defScope s_missed_by) := ⟨rfl, rfl, rfl, by decide +kernel, rfl, by decide +kernel, by decide +kernel⟩
def m_missed_by : MF := mDef 2 8
  (mSeq m_missed_by_0
  (mSeq m_missed_by_2
  m_missed_by_6))
abbrev s_best_reach : Stmt := topS 6
def m_best_reach_0 : MS := (mRet (mOp fSub (mVar 0) (mOp fDiv (mOp fSub (mOp fAdd (mVar 0) (mVar 1)) (mC (.int 1))) (mVar 1))))
theorem sc_best_reach : FnScope ["width", "many"] ["width", "many"] (defScope s_best_reach) := ⟨rfl, rfl, rfl, by decide +kernel, rfl, by decide +kernel, by decide +kernel⟩
def m_best_reach : MF := mDef 2 2
  m_best_reach_0
abbrev s_law_box : Stmt := topS 8
def m_law_box_0 : MS := (mSet 2 (mIf (mB (mOp fLt (mVar 1) (mCb fLen (mCons (mVar 0) mNil)))) (mOp fIx (mVar 0) (mVar 1)) (mC (.int 0))))
def m_law_box_1 : MS := (mRet (mLst (mCons (mOp fMul (mCb fAbs (mCons (mVar 2) mNil)) (mCb fInt (mCons (mOp fGeI (mCb fAbs (mCons (mVar 2) mNil)) (mOp fPow (mC (.int 10)) (mC (.int 18)))) mNil))) (mCons (mOp fAdd (mOp fAdd (mOp fMod (mCb fInt (mCons (mVar 2) mNil)) (mC (.int 2305843009213693951))) (mOp fMul (mC (.int 39373)) (mVar 1))) (mC (.int 293))) (mCons (mC (.int 0)) mNil)))))
theorem sc_law_box : FnScope ["_law_script", "_law_k", "_law_cell"] ["_law_script", "_law_k"] (defScope s_law_box) := ⟨rfl, rfl, rfl, by decide +kernel, rfl, by decide +kernel, by decide +kernel⟩
def m_law_box : MF := mDef 2 3
  (mSeq m_law_box_0
  m_law_box_1)
abbrev s_law_take : Stmt := topS 9
def m_law_take_0 : MS := (mSet 2 (mOp fMod (mCb fInt (mCons (mOp fIx (mVar 0) (mC (.int 0))) mNil)) (mVar 1)))
def m_law_take_1 : MS := (mPut (mVar 0) (mC (.int 0)) (mOp fDiv (mOp fIx (mVar 0) (mC (.int 0))) (mVar 1)))
def m_law_take_2 : MS := (mRet (mVar 2))
def m_law_take_3 : MS := (mIfS (mB (mOp fGtI (mOp fIx (mVar 0) (mC (.int 0))) (mC (.int 0)))) (mSeq m_law_take_0
  (mSeq m_law_take_1
  m_law_take_2)) mNx)
def m_law_take_4 : MS := (mPut (mVar 0) (mC (.int 2)) (mOp fAdd (mOp fIx (mVar 0) (mC (.int 2))) (mC (.int 1))))
def m_law_take_5 : MS := (mSet 3 (mOp fMod (mCb fInt (mCons (mOp fMul (mOp fAdd (mOp fIx (mVar 0) (mC (.int 1))) (mOp fMul (mC (.int 48271)) (mOp fIx (mVar 0) (mC (.int 2))))) (mOp fAdd (mC (.int 39373)) (mOp fIx (mVar 0) (mC (.int 2))))) mNil)) (mC (.int 2147483647))))
def m_law_take_6 : MS := (mSet 4 (mOp fAdd (mOp fMod (mCb fInt (mCons (mVar 3) mNil)) (mC (.int 40009))) (mC (.int 7))))
def m_law_take_7 : MS := (mSet 5 (mOp fMod (mCb fInt (mCons (mOp fMul (mOp fAdd (mOp fAdd (mVar 3) (mOp fIx (mVar 0) (mC (.int 2)))) (mOp fDiv (mOp fIx (mVar 0) (mC (.int 1))) (mC (.int 1000003)))) (mVar 4)) mNil)) (mC (.int 2147483629))))
def m_law_take_8 : MS := (mRet (mOp fMod (mCb fInt (mCons (mOp fDiv (mOp fMod (mCb fInt (mCons (mOp fAdd (mOp fMul (mVar 5) (mC (.int 48271))) (mVar 3)) mNil)) (mC (.int 2147483587))) (mC (.int 64))) mNil)) (mVar 1)))
theorem sc_law_take : FnScope ["_law_box_here", "_law_below", "_law_drawn", "_law_once", "_law_far", "_law_twice"] ["_law_box_here", "_law_below"] (defScope s_law_take) := ⟨rfl, rfl, rfl, by decide +kernel, rfl, by decide +kernel, by decide +kernel⟩
def m_law_take : MF := mDef 2 6
  (mSeq m_law_take_3
  (mSeq m_law_take_4
  (mSeq m_law_take_5
  (mSeq m_law_take_6
  (mSeq m_law_take_7
  m_law_take_8)))))
abbrev s_law_cells : Stmt := topS 10
def m_law_cells_0 : MS := (mSetC 2 (mOr (mCb fList (mCons (mSl (mVar 0) mNo (mSo (mVar 1))) mNil)) (mLst (mCons (mC (.int 0)) mNil))))
def m_law_cells_1 : MS := (mSet 5 (mOp fMod (mCb fInt (mCons (mVar 3) mNil)) (mVar 1)))
def m_law_cells_2 : MS := (mPut (mVar 2) (mVar 5) (mOp fAdd (mOp fIx (mVar 2) (mVar 5)) (mOp fMul (mVar 4) (mOp fAdd (mVar 3) (mC (.int 2))))))
def m_law_cells_b3 : MS := (mSeq m_law_cells_1
  m_law_cells_2)
def m_law_cells_4 : MS := (mFor (mItE (mCons (mSl (mVar 0) (mSo (mVar 1)) (mSo (mC (.int 63)))) mNil)) (tgPair 3 4) m_law_cells_b3)
def m_law_cells_5 : MS := (mRet (mVar 2))
theorem sc_law_cells : FnScope ["_law_script", "_law_most_so", "_law_slots_so", "_law_k", "_law_cell", "_law_at_so"] ["_law_script", "_law_most_so"] (defScope s_law_cells) := ⟨rfl, rfl, rfl, by decide +kernel, rfl, by decide +kernel, by decide +kernel⟩
def m_law_cells : MF := mDef 2 6
  (mSeq m_law_cells_0
  (mSeq m_law_cells_4
  m_law_cells_5))
abbrev s_law_of : Stmt := topS 11
def m_law_of_0 : MS := (mRet (mOp fIx (mVar 1) (mCall (callX m_law_take) (mCons (mVar 0) (mCons (mCb fLen (mCons (mVar 1) mNil)) mNil)))))
theorem sc_law_of : FnScope ["_law_box_here", "_law_some_so"] ["_law_box_here", "_law_some_so"] (defScope s_law_of) := ⟨rfl, rfl, rfl, by decide +kernel, rfl, by decide +kernel, by decide +kernel⟩
def m_law_of : MF := mDef 2 2
  m_law_of_0
abbrev s_law_same : Stmt := topS 12
def m_law_same_0 (r : MF) : MS := (mRet (mC (.bl false)))
def m_law_same_1 (r : MF) : MS := (mIfS (mtOr (mB (mOp (fEq true) (mIsi "list" (mVar 0)) (mIsi "list" (mVar 1)))) (mB (mOp (fEq true) (mIsi "tuple" (mVar 0)) (mIsi "tuple" (mVar 1))))) (m_law_same_0 r) mNx)
def m_law_same_e2 (r : MF) : ME := (mCall (callX r) (mCons (mVar 2) (mCons (mVar 3) mNil)))
def m_law_same_3 (r : MF) : MS := (mRet (mAnd (mOp (fEq false) (mCb fLen (mCons (mVar 0) mNil)) (mCb fLen (mCons (mVar 1) mNil))) (mCb fAll (mCons (mLc (mItZ (mCons (mVar 0) (mCons (mVar 1) mNil))) (tgPair 2 3) mYes (m_law_same_e2 r) [2, 3]) mNil))))
def m_law_same_4 (r : MF) : MS := (mIfS (mB (mIsi2 "list" "tuple" (mVar 1))) (mSeq (m_law_same_1 r)
  (m_law_same_3 r)) mNx)
def m_law_same_5 (r : MF) : MS := (mRet (mAnd (mOp (fEq false) (mVar 0) (mVar 1)) (mAnd (mOp (fEq false) (mIsi "bool" (mVar 0)) (mIsi "bool" (mVar 1))) (mOp (fEq false) (mOp (fIsN false) (mVar 0) (mC .non)) (mOp (fIsN false) (mVar 1) (mC .non))))))
def m_law_same_6 (r : MF) : MS := (mIfS (mtOr (mB (mOp (fIsN false) (mVar 1) (mC .non))) (mB (mIsi2 "bool" "str" (mVar 1)))) (m_law_same_5 r) mNx)
def m_law_same_7 (r : MF) : MS := (mRet (mAnd (mIsi "int" (mVar 0)) (mAnd (mNot (mIsi "bool" (mVar 0))) (mOp (fEq false) (mVar 0) (mVar 1)))))
theorem sc_law_same : FnScope ["_law_got", "_law_due", "_law_mine", "_law_its"] ["_law_got", "_law_due"] (defScope s_law_same) := ⟨rfl, rfl, rfl, by decide +kernel, rfl, by decide +kernel, by decide +kernel⟩
def m_law_same : Nat → MF
  | 0 => fun _ _ => none
  | j + 1 => mDef 2 4 (mSeq (m_law_same_4 (m_law_same j))
      (mSeq (m_law_same_6 (m_law_same j))
      (m_law_same_7 (m_law_same j))))
abbrev s_law_pick : Stmt := topS 13
def m_law_pick_0 : MS := (mPar true true 3 4 (mCb fList (mCons (mVar 1) mNil)) (mLst mNil))
def m_law_pick_1 : MS := (mDrop (mBm fAppend (mVar 4) (mCons (mBm fPopAt (mVar 3) (mCons (mCall (callX m_law_take) (mCons (mVar 0) (mCons (mCb fLen (mCons (mVar 3) mNil)) mNil))) mNil)) mNil)))
def m_law_pick_2 : MS := (mFor (mItR1 (mCons (mCb fMin (mCons (mCb fInt (mCons (mVar 2) mNil)) (mCons (mCb fLen (mCons (mVar 3) mNil)) mNil))) mNil)) (tgName 5) m_law_pick_1)
def m_law_pick_3 : MS := (mRet (mVar 4))
theorem sc_law_pick : FnScope ["_law_box_here", "_law_some_so", "_law_many_so", "_law_rest", "_law_found", "_law_turn"] ["_law_box_here", "_law_some_so", "_law_many_so"] (defScope s_law_pick) := ⟨rfl, rfl, rfl, by decide +kernel, rfl, by decide +kernel, by decide +kernel⟩
def m_law_pick : MF := mDef 3 6
  (mSeq m_law_pick_0
  (mSeq m_law_pick_2
  m_law_pick_3))
abbrev s_law_ascending : Stmt := topS 14
def m_law_ascending_0 : MS := (mSetC 1 (mLst mNil))
def m_law_ascending_1 : MS := (mSet 3 (mCb fLen (mCons (mVar 1) mNil)))
def m_law_ascending_2 : MS := (mSet 3 (mOp fSub (mVar 3) (mC (.int 1))))
def m_law_ascending_c3 : MT := (mtAnd (mB (mOp fGtI (mVar 3) (mC (.int 0)))) (mB (mOp fLt (mVar 2) (mOp fIx (mVar 1) (mOp fSub (mVar 3) (mC (.int 1)))))))
def m_law_ascending_4 : MS := (wh m_law_ascending_c3 m_law_ascending_2 1000)
def m_law_ascending_5 : MS := (mDrop (mBm fInsert (mVar 1) (mCons (mVar 3) (mCons (mVar 2) mNil))))
def m_law_ascending_b6 : MS := (mSeq m_law_ascending_1
  (mSeq m_law_ascending_4
  m_law_ascending_5))
def m_law_ascending_7 : MS := (mFor (mIt (mVar 0)) (tgName 2) m_law_ascending_b6)
def m_law_ascending_8 : MS := (mRet (mVar 1))
theorem sc_law_ascending : FnScope ["_law_rows", "_law_found", "_law_row", "_law_place"] ["_law_rows"] (defScope s_law_ascending) := ⟨rfl, rfl, rfl, by decide +kernel, rfl, by decide +kernel, by decide +kernel⟩
def m_law_ascending : MF := mDef 1 4
  (mSeq m_law_ascending_0
  (mSeq m_law_ascending_7
  m_law_ascending_8))
abbrev s_law_subsets : Stmt := topS 15
def m_law_subsets_0 : MS := (mSet 1 (mLst (mCons (mTup mNil) mNil)))
def m_law_subsets_e1 : ME := (mOp fAdd (mVar 3) (mTup (mCons (mVar 2) mNil)))
def m_law_subsets_2 : MS := (mSet 1 (mOp fAdd (mVar 1) (mLc (mIt (mVar 1)) (tgName 3) mYes m_law_subsets_e1 [3])))
def m_law_subsets_3 : MS := (mFor (mIt (mVar 0)) (tgName 2) m_law_subsets_2)
def m_law_subsets_4 : MS := (mRet (mVar 1))
theorem sc_law_subsets : FnScope ["_law_some_so", "_law_found", "_law_own", "_law_row"] ["_law_some_so"] (defScope s_law_subsets) := ⟨rfl, rfl, rfl, by decide +kernel, rfl, by decide +kernel, by decide +kernel⟩
def m_law_subsets : MF := mDef 1 4
  (mSeq m_law_subsets_0
  (mSeq m_law_subsets_3
  m_law_subsets_4))
abbrev s_law_missed : Stmt := topS 16
def m_law_missed_c0 : MT := (mB (mOp (fEq false) (mOp fDiv (mOp fSub (mVar 3) (mVar 4)) (mVar 0)) (mOp fDiv (mOp fSub (mOp fAdd (mVar 3) (mVar 2)) (mVar 4)) (mVar 0))))
def m_law_missed_e1 : ME := (mVar 4)
def m_law_missed_2 : MS := (mRet (mTup (mCons (mVar 3) (mCons (mOp fAdd (mVar 3) (mVar 2)) mNil))))
def m_law_missed_3 : MS := (mIfS (mB (mOp (fEq false) (mLc (mIt (mVar 1)) (tgName 4) m_law_missed_c0 m_law_missed_e1 [4]) (mLst mNil))) m_law_missed_2 mNx)
def m_law_missed_4 : MS := (mFor (mItR1 (mCons (mVar 0) mNil)) (tgName 3) m_law_missed_3)
def m_law_missed_5 : MS := (mFor (mItR2 (mCons (mC (.int 1)) (mCons (mOp fAdd (mVar 0) (mC (.int 1))) mNil))) (tgName 2) m_law_missed_4)
def m_law_missed_6 : MS := (mRet (mC .non))
theorem sc_law_missed : FnScope ["_law_wide", "_law_row_so", "_law_far", "_law_x", "_law_k"] ["_law_wide", "_law_row_so"] (defScope s_law_missed) := ⟨rfl, rfl, rfl, by decide +kernel, rfl, by decide +kernel, by decide +kernel⟩
def m_law_missed : MF := mDef 2 5
  (mSeq m_law_missed_5
  m_law_missed_6)
abbrev s_law_best : Stmt := topS 17
def m_law_best_0 : MS := (mSet 2 (mC (.int 0)))
def m_law_best_1 : MS := (mAsg (tgPair 4 5) (mCall (callX m_law_missed) (mCons (mVar 0) (mCons (mOp fAdd (mTup (mCons (mC (.int 0)) mNil)) (mVar 3)) mNil))))
def m_law_best_2 : MS := (mSet 2 (mCb fMax (mCons (mCb fInt (mCons (mVar 2) mNil)) (mCons (mCb fInt (mCons (mOp fSub (mOp fSub (mVar 5) (mVar 4)) (mC (.int 1))) mNil)) mNil))))
def m_law_best_3 : MS := (mIfS (mB (mOp (fEq false) (mCb fLen (mCons (mVar 3) mNil)) (mOp fSub (mVar 1) (mC (.int 1))))) (mSeq m_law_best_1
  m_law_best_2) mNx)
def m_law_best_4 : MS := (mFor (mIt (mCall (callX m_law_subsets) (mCons (mRg2 (mC (.int 1)) (mVar 0)) mNil))) (tgName 3) m_law_best_3)
def m_law_best_5 : MS := (mRet (mVar 2))
theorem sc_law_best : FnScope ["_law_wide", "_law_size", "_law_best_here", "_law_row_so", "_law_one_so", "_law_other_so"] ["_law_wide", "_law_size"] (defScope s_law_best) := ⟨rfl, rfl, rfl, by decide +kernel, rfl, by decide +kernel, by decide +kernel⟩
def m_law_best : MF := mDef 2 6
  (mSeq m_law_best_0
  (mSeq m_law_best_4
  m_law_best_5))
abbrev s_law_hand_right : Stmt := topS 18
def m_law_hand_right_0 : MS := (mSet 0 (mLst (mCons (mCall (callX m_reach_of) (mCons (mC (.int 12)) (mCons (mTup (mCons (mC (.int 0)) (mCons (mC (.int 4)) (mCons (mC (.int 8)) mNil)))) mNil))) (mCons (mCall (callX m_missed_by) (mCons (mC (.int 12)) (mCons (mTup (mCons (mC (.int 0)) (mCons (mC (.int 4)) (mCons (mC (.int 8)) mNil)))) mNil))) (mCons (mCall (callX m_best_reach) (mCons (mC (.int 10)) (mCons (mC (.int 3)) mNil))) (mCons (mCall (callX m_best_reach) (mCons (mC (.int 12)) (mCons (mC (.int 12)) mNil))) (mCons (mCall (callX m_best_reach) (mCons (mC (.int 7)) (mCons (mC (.int 1)) mNil))) mNil)))))))
def m_law_hand_right_1 : MS := (mSet 1 (mLst (mCons (mC (.int 8)) (mCons (mTup (mCons (mC (.int 3)) (mCons (mC (.int 12)) mNil))) (mCons (mC (.int 6)) (mCons (mC (.int 11)) (mCons (mC (.int 0)) mNil)))))))
def m_law_hand_right_2 : MS := (mSet 0 (mOp fAdd (mVar 0) (mLst (mCons (mCall (callX m_reach_of) (mCons (mC (.int 5)) (mCons (mTup (mCons (mC (.int 3)) mNil)) mNil))) (mCons (mCall (callX m_missed_by) (mCons (mC (.int 5)) (mCons (mTup (mCons (mC (.int 3)) mNil)) mNil))) (mCons (mCall (callX m_reach_of) (mCons (mC (.int 1)) (mCons (mTup (mCons (mC (.int 0)) mNil)) mNil))) (mCons (mCall (callX m_missed_by) (mCons (mC (.int 1)) (mCons (mTup (mCons (mC (.int 0)) mNil)) mNil))) (mCons (mCall (callX m_reach_of) (mCons (mC (.int 40)) (mCons (mTup (mCons (mC (.int 0)) (mCons (mC (.int 20)) mNil))) mNil))) mNil))))))))
def m_law_hand_right_3 : MS := (mSet 1 (mOp fAdd (mVar 1) (mLst (mCons (mC (.int 0)) (mCons (mTup (mCons (mC (.int 2)) (mCons (mC (.int 3)) mNil))) (mCons (mC (.int 0)) (mCons (mTup (mCons (mC (.int 0)) (mCons (mC (.int 1)) mNil))) (mCons (mC (.int 20)) mNil))))))))
def m_law_hand_right_4 : MS := (mSet 0 (mOp fAdd (mVar 0) (mLst (mCons (mCall (callX m_missed_by) (mCons (mC (.int 40)) (mCons (mTup (mCons (mC (.int 0)) (mCons (mC (.int 20)) mNil))) mNil))) (mCons (mCall (callX m_reach_of) (mCons (mC (.int 10)) (mCons (mTup (mCons (mC (.int 0)) (mCons (mC (.int 1)) mNil))) mNil))) (mCons (mCall (callX m_missed_by) (mCons (mC (.int 10)) (mCons (mTup (mCons (mC (.int 0)) (mCons (mC (.int 1)) mNil))) mNil))) (mCons (mCall (callX m_best_reach) (mCons (mC (.int 40)) (mCons (mC (.int 7)) mNil))) mNil)))))))
def m_law_hand_right_5 : MS := (mRet (mCall (callX (m_law_same 5)) (mCons (mOp fAdd (mVar 0) (mLst (mCons (mCall (callX m_best_reach) (mCons (mC (.int 1)) (mCons (mC (.int 1)) mNil))) mNil))) (mCons (mOp fAdd (mVar 1) (mLst (mCons (mTup (mCons (mC (.int 19)) (mCons (mC (.int 40)) mNil))) (mCons (mC (.int 1)) (mCons (mTup (mCons (mC (.int 9)) (mCons (mC (.int 11)) mNil))) (mCons (mC (.int 34)) (mCons (mC (.int 0)) mNil))))))) mNil))))
theorem sc_law_hand_right : FnScope ["_law_got", "_law_due"] [] (defScope s_law_hand_right) := ⟨rfl, rfl, rfl, by decide +kernel, rfl, by decide +kernel, by decide +kernel⟩
def m_law_hand_right : MF := mDef 0 2
  (mSeq m_law_hand_right_0
  (mSeq m_law_hand_right_1
  (mSeq m_law_hand_right_2
  (mSeq m_law_hand_right_3
  (mSeq m_law_hand_right_4
  m_law_hand_right_5)))))
abbrev s_law_right : Stmt := topS 19
def m_law_right_0 : MS := (mRet (mC (.bl false)))
def m_law_right_1 : MS := (mIfS (mtNot (mB (mCall (callX m_law_hand_right) mNil))) m_law_right_0 mNx)
def m_law_right_2 : MS := (mSet 2 (mCall (callX m_law_of) (mCons (mVar 0) (mCons (mLst (mCons (mOp fAdd (mC (.int 1)) (mCall (callX m_law_take) (mCons (mVar 0) (mCons (mC (.int 12)) mNil)))) (mCons (mOp fAdd (mC (.int 1)) (mCall (callX m_law_take) (mCons (mVar 0) (mCons (mC (.int 12)) mNil)))) (mCons (mC (.int 40)) mNil)))) mNil))))
def m_law_right_3 : MS := (mSet 3 (mCall (callX m_law_pick) (mCons (mVar 0) (mCons (mRg1 (mVar 2)) (mCons (mOp fAdd (mC (.int 1)) (mCall (callX m_law_take) (mCons (mVar 0) (mCons (mCb fMin (mCons (mCb fInt (mCons (mVar 2) mNil)) (mCons (mC (.int 5)) mNil))) mNil)))) mNil)))))
def m_law_right_4 : MS := (mSet 3 (mCb fTuple (mCons (mCall (callX m_law_ascending) (mCons (mVar 3) mNil)) mNil)))
def m_law_right_5 : MS := (mSet 4 (mCall (callX m_law_missed) (mCons (mVar 2) (mCons (mVar 3) mNil))))
def m_law_right_6 : MS := (mSet 5 (mLst (mCons (mCall (callX m_missed_by) (mCons (mVar 2) (mCons (mVar 3) mNil))) (mCons (mCallK (callX m_missed_by) 0 2 [1, 0] mNil (mCons (mCb fList (mCons (mVar 3) mNil)) (mCons (mVar 2) mNil))) mNil))))
def m_law_right_7 : MS := (mSet 5 (mOp fAdd (mVar 5) (mLst (mCons (mCall (callX m_reach_of) (mCons (mVar 2) (mCons (mVar 3) mNil))) (mCons (mCallK (callX m_reach_of) 0 2 [1, 0] mNil (mCons (mCb fList (mCons (mVar 3) mNil)) (mCons (mVar 2) mNil))) mNil)))))
def m_law_right_8 : MS := (mRet (mC (.bl false)))
def m_law_right_9 : MS := (mIfS (mtNot (mB (mCall (callX (m_law_same 5)) (mCons (mVar 5) (mCons (mOp fAdd (mLst (mCons (mVar 4) (mCons (mVar 4) mNil))) (mOp fMul (mLst (mCons (mOp fSub (mOp fSub (mOp fIx (mVar 4) (mC (.int 1))) (mOp fIx (mVar 4) (mC (.int 0)))) (mC (.int 1))) mNil)) (mC (.int 2)))) mNil))))) m_law_right_8 mNx)
def m_law_right_b10 : MS := (mSeq m_law_right_2
  (mSeq m_law_right_3
  (mSeq m_law_right_4
  (mSeq m_law_right_5
  (mSeq m_law_right_6
  (mSeq m_law_right_7
  m_law_right_9))))))
def m_law_right_11 : MS := (mFor (mItR1 (mCons (mC (.int 8)) mNil)) (tgName 1) m_law_right_b10)
def m_law_right_12 : MS := (mSet 2 (mOp fAdd (mC (.int 1)) (mCall (callX m_law_take) (mCons (mVar 0) (mCons (mC (.int 8)) mNil)))))
def m_law_right_13 : MS := (mSet 6 (mOp fAdd (mC (.int 1)) (mCall (callX m_law_take) (mCons (mVar 0) (mCons (mVar 2) mNil)))))
def m_law_right_14 : MS := (mSet 4 (mCall (callX m_law_best) (mCons (mVar 2) (mCons (mVar 6) mNil))))
def m_law_right_15 : MS := (mRet (mCall (callX (m_law_same 5)) (mCons (mLst (mCons (mCall (callX m_best_reach) (mCons (mVar 2) (mCons (mVar 6) mNil))) (mCons (mCallK (callX m_best_reach) 0 2 [1, 0] mNil (mCons (mVar 6) (mCons (mVar 2) mNil))) mNil))) (mCons (mLst (mCons (mVar 4) (mCons (mVar 4) mNil))) mNil))))
theorem sc_law_right : FnScope ["_law_box_here", "_law_turn", "_law_wide", "_law_row_so", "_law_due", "_law_got", "_law_size"] ["_law_box_here"] (defScope s_law_right) := ⟨rfl, rfl, rfl, by decide +kernel, rfl, by decide +kernel, by decide +kernel⟩
def m_law_right : MF := mDef 1 7
  (mSeq m_law_right_1
  (mSeq m_law_right_11
  (mSeq m_law_right_12
  (mSeq m_law_right_13
  (mSeq m_law_right_14
  m_law_right_15)))))
abbrev s_law : Stmt := topS 20
def m_law_0 : MS := (mSet 1 (mCall (callX m_law_cells) (mCons (mVar 0) (mCons (mC (.int 3)) mNil))))
def m_law_e1 : ME := (mCall1 m_law_right (mCall (callX m_law_box) (mCons (mVar 1) (mCons (mVar 2) mNil))))
def m_law_2 : MS := (mRet (mCb fAll (mCons (mLc (mItR1 (mCons (mCb fLen (mCons (mVar 1) mNil)) mNil)) (tgName 2) mYes m_law_e1 [2]) mNil)))
theorem sc_law : FnScope ["_law_script", "_law_cells_so", "_law_k_so"] ["_law_script"] (defScope s_law) := ⟨rfl, rfl, rfl, by decide +kernel, rfl, by decide +kernel, by decide +kernel⟩
def m_law : MF := mDef 1 3
  (mSeq m_law_0
  m_law_2)
end NS
set_option Elab.async false
set_option linter.all false
set_option maxRecDepth 100000
set_option maxHeartbeats 4000000
namespace NS
open PySem PySem.Spec PyProof.Rows L2 DL
section
variable {P : Program} {w : World} {K : PySem.W.Frag} {mg : Str → Option Value} {base : Heap} {cl : Nat → Addr}
theorem t_tupled_1 {f : Addr} (B : Bt mg) {j : Nat} (S_tupled : FS P w K mg base cl (0 + j + 1) "tupled" 1 (m_tupled j)) (cdv : Value) (A : Around) (outer : List Env) (s : Shared) (H : Hp) (E : XK) (hr : Room (0 + j + 1) (A.deeper (envOfC "tupled" (defScope s_tupled) s.heap.objs.size f cdv))) :
    SS (cxOf CX0 P w K mg base ["thing", "part"] "tupled" (defScope s_tupled) f cdv A outer s H E).nox cl ((sub1 ((defBody s_tupled).getD 0 (.Pass ⟨0, 0, 0, 0⟩))).getD 0 (.Pass ⟨0, 0, 0, 0⟩)) (m_tupled_1 (m_tupled j)) := by
  exact (ss_ret (se_tuple B.tuple (sa_cons (se_lc (own := [("part", 1)]) sc_tupled.nd (si_seq (se_var (i := 0))) (sem_name (by decide)) (fun _ _ _ _ _ => (sg_name (cl := cl) (vs := [1]) (i := 1) sc_tupled.nd).1) (fun _ _ _ _ _ => stt_nil) (fun _ _ _ _ _ => (se_call S_tupled.x hr (Nat.le_refl _) (sa_cons (se_var (i := 1)) sa_nil))) (blkOk_by (by kernel_rfl))) sa_nil)))
theorem t_tupled_2 {f : Addr} (B : Bt mg) {j : Nat} (S_tupled : FS P w K mg base cl (0 + j + 1) "tupled" 1 (m_tupled j)) (cdv : Value) (A : Around) (outer : List Env) (s : Shared) (H : Hp) (E : XK) (hr : Room (0 + j + 1) (A.deeper (envOfC "tupled" (defScope s_tupled) s.heap.objs.size f cdv))) :
    SS (cxOf CX0 P w K mg base ["thing", "part"] "tupled" (defScope s_tupled) f cdv A outer s H E).nox cl ((defBody s_tupled).getD 0 (.Pass ⟨0, 0, 0, 0⟩)) (m_tupled_2 (m_tupled j)) := by
  exact (ss_if (st_val (se_isi2 B.isinstance B.list B.tuple (by decide) (by decide) boot_list' boot_tuple' (se_var (i := 0)))) (sss_one (t_tupled_1 B S_tupled cdv A outer s H E hr)) sss_nil)
theorem t_tupled_3 {f : Addr} (B : Bt mg) {j : Nat} (S_tupled : FS P w K mg base cl (0 + j + 1) "tupled" 1 (m_tupled j)) (cdv : Value) (A : Around) (outer : List Env) (s : Shared) (H : Hp) (E : XK) (hr : Room (0 + j + 1) (A.deeper (envOfC "tupled" (defScope s_tupled) s.heap.objs.size f cdv))) :
    SS (cxOf CX0 P w K mg base ["thing", "part"] "tupled" (defScope s_tupled) f cdv A outer s H E).nox cl ((defBody s_tupled).getD 1 (.Pass ⟨0, 0, 0, 0⟩)) (m_tupled_3 (m_tupled j)) := by
  exact (ss_ret (se_var (i := 0)))
theorem ok_tupled {f : Addr} {fd : FuncData} (F : Fun K "tupled" "tupled" s_tupled f fd) (B : Bt mg) (hm : mg "tupled" = some (.ref f)) (bn : Binds K fd ["thing"] []) : ∀ j : Nat, FnOk P w K mg base CX0 (0 + j + 1) f fd ["thing"] (spM K cl 1 (m_tupled j))
  | 0 => def_zero
  | j + 1 => by
    have S_tupled : FS P w K mg base cl (0 + j + 1) "tupled" 1 (m_tupled j) := ⟨⟨f, fd, ["thing"], ok_tupled F B hm bn j, hm, F.kp, bn, rfl⟩, fun rs μ z h => by
      cases j with
      | zero => cases h
      | succ j => exact mDef_ar rs μ z h⟩
    refine def_ok (N := ["thing", "part"]) (n := 1) F sc_tupled rfl (fun cdv A outer s H E hr => ?_)
    exact (sss_cons (t_tupled_2 B S_tupled cdv A outer s H E hr)
    (sss_one (t_tupled_3 B S_tupled cdv A outer s H E hr)))
theorem fs_tupled {f : Addr} {fd : FuncData} (F : Fun K "tupled" "tupled" s_tupled f fd) (hm : mg "tupled" = some (.ref f)) (B : Bt mg) : FS P w K mg base cl 5 "tupled" 1 (m_tupled 4) :=
  ⟨⟨f, fd, ["thing"], ok_tupled F B hm (F.binds (ps := ["thing"]) fun _ _ _ _ _ _ us hl => match us, hl with | [_], _ => rfl) 4, hm, F.kp, F.binds (ps := ["thing"]) fun _ _ _ _ _ _ us hl => match us, hl with | [_], _ => rfl, rfl⟩, fun rs μ z h => mDef_ar rs μ z h⟩
end
end NS
set_option Elab.async false
set_option linter.all false
set_option maxRecDepth 100000
set_option maxHeartbeats 4000000
namespace NS
open PySem PySem.Spec PyProof.Rows L2 DL
section
variable {P : Program} {w : World} {K : PySem.W.Frag} {mg : Str → Option Value} {base : Heap} {cl : Nat → Addr}
theorem t_is_torn_0 {f : Addr} (B : Bt mg) (cdv : Value) (A : Around) (outer : List Env) (s : Shared) (H : Hp) (E : XK) (hr : Room 0 (A.deeper (envOfC "is_torn" (defScope s_is_torn) s.heap.objs.size f cdv))) :
    SS (cxOf CX0 P w K mg base ["pair", "width", "start"] "is_torn" (defScope s_is_torn) f cdv A outer s H E).nox cl ((defBody s_is_torn).getD 0 (.Pass ⟨0, 0, 0, 0⟩)) m_is_torn_0 := by
  exact (ss_ret (se_ne hr.units (se_div (se_sub (se_ix (se_var (i := 0)) se_int) (se_var (i := 2))) (se_var (i := 1))) (se_div (se_sub (se_ix (se_var (i := 0)) se_int) (se_var (i := 2))) (se_var (i := 1)))))
theorem ok_is_torn {f : Addr} {fd : FuncData} (F : Fun K "is_torn" "is_torn" s_is_torn f fd) (B : Bt mg) : FnOk P w K mg base CX0 1 f fd ["pair", "width", "start"] (spM K cl 3 m_is_torn) := by
  refine def_ok (N := ["pair", "width", "start"]) (n := 3) F sc_is_torn rfl (fun cdv A outer s H E hr => ?_)
  exact (sss_one (t_is_torn_0 B cdv A outer s H E hr))
theorem fs_is_torn {f : Addr} {fd : FuncData} (F : Fun K "is_torn" "is_torn" s_is_torn f fd) (hm : mg "is_torn" = some (.ref f)) (B : Bt mg) : FS P w K mg base cl 1 "is_torn" 3 m_is_torn :=
  ⟨⟨f, fd, ["pair", "width", "start"], ok_is_torn F B, hm, F.kp, F.binds (ps := ["pair", "width", "start"]) fun _ _ _ _ _ _ us hl => match us, hl with | [_, _, _], _ => rfl, rfl⟩, fun rs μ z h => mDef_ar rs μ z h⟩
end
end NS
set_option Elab.async false
set_option linter.all false
set_option maxRecDepth 100000
set_option maxHeartbeats 4000000
namespace NS
open PySem PySem.Spec PyProof.Rows L2 DL
section
variable {P : Program} {w : World} {K : PySem.W.Frag} {mg : Str → Option Value} {base : Heap} {cl : Nat → Addr}
theorem t_reach_of_0 {f : Addr} (B : Bt mg) (S_tupled : FS P w K mg base cl 5 "tupled" 1 (m_tupled 4)) (cdv : Value) (A : Around) (outer : List Env) (s : Shared) (H : Hp) (E : XK) (hr : Room 5 (A.deeper (envOfC "reach_of" (defScope s_reach_of) s.heap.objs.size f cdv))) :
    SS (cxOf CX0 P w K mg base ["width", "starts", "row", "wide", "one", "other"] "reach_of" (defScope s_reach_of) f cdv A outer s H E).nox cl ((defBody s_reach_of).getD 0 (.Pass ⟨0, 0, 0, 0⟩)) m_reach_of_0 := by
  exact (ss_set (i := 2) sc_reach_of.nd (se_call S_tupled.x hr (by decide) (sa_cons (se_var (i := 1)) sa_nil)))
theorem t_reach_of_1 {f : Addr} (B : Bt mg) (S_tupled : FS P w K mg base cl 5 "tupled" 1 (m_tupled 4)) (cdv : Value) (A : Around) (outer : List Env) (s : Shared) (H : Hp) (E : XK) (hr : Room 5 (A.deeper (envOfC "reach_of" (defScope s_reach_of) s.heap.objs.size f cdv))) :
    SS (cxOf CX0 P w K mg base ["width", "starts", "row", "wide", "one", "other"] "reach_of" (defScope s_reach_of) f cdv A outer s H E).nox cl ((defBody s_reach_of).getD 1 (.Pass ⟨0, 0, 0, 0⟩)) m_reach_of_1 := by
  exact (ss_set (i := 3) sc_reach_of.nd (se_sub (se_add (se_ix (se_var (i := 2)) se_int) (se_var (i := 0))) (se_ix (se_var (i := 2)) (se_neg se_int))))
theorem t_reach_of_2 {f : Addr} (B : Bt mg) (S_tupled : FS P w K mg base cl 5 "tupled" 1 (m_tupled 4)) (cdv : Value) (A : Around) (outer : List Env) (s : Shared) (H : Hp) (E : XK) (hr : Room 5 (A.deeper (envOfC "reach_of" (defScope s_reach_of) s.heap.objs.size f cdv))) :
    SS (cxOf CX0 P w K mg base ["width", "starts", "row", "wide", "one", "other"] "reach_of" (defScope s_reach_of) f cdv A outer s H E).nox cl ((sub1 ((defBody s_reach_of).getD 2 (.Pass ⟨0, 0, 0, 0⟩))).getD 0 (.Pass ⟨0, 0, 0, 0⟩)) m_reach_of_2 := by
  exact (ss_set (i := 3) sc_reach_of.nd (se_max B.max (sa_cons (se_int1 B.int (sa_cons (se_var (i := 3)) sa_nil)) (sa_cons (se_int1 B.int (sa_cons (se_sub (se_var (i := 5)) (se_var (i := 4))) sa_nil)) sa_nil))))
theorem t_reach_of_3 {f : Addr} (B : Bt mg) (S_tupled : FS P w K mg base cl 5 "tupled" 1 (m_tupled 4)) (cdv : Value) (A : Around) (outer : List Env) (s : Shared) (H : Hp) (E : XK) (hr : Room 5 (A.deeper (envOfC "reach_of" (defScope s_reach_of) s.heap.objs.size f cdv))) :
    SS (cxOf CX0 P w K mg base ["width", "starts", "row", "wide", "one", "other"] "reach_of" (defScope s_reach_of) f cdv A outer s H E).nox cl ((defBody s_reach_of).getD 2 (.Pass ⟨0, 0, 0, 0⟩)) m_reach_of_3 := by
  exact (ss_for (si_zip B.zip (sa_cons (se_var (i := 2)) (sa_cons (se_slice (se_var (i := 2)) (so_some se_int) so_none) sa_nil))) (sg_pair (i := 4) (j := 5) (vs := [4, 5]) sc_reach_of.nd) (sss_one (t_reach_of_2 B S_tupled cdv A outer s H E hr)))
theorem t_reach_of_4 {f : Addr} (B : Bt mg) (S_tupled : FS P w K mg base cl 5 "tupled" 1 (m_tupled 4)) (cdv : Value) (A : Around) (outer : List Env) (s : Shared) (H : Hp) (E : XK) (hr : Room 5 (A.deeper (envOfC "reach_of" (defScope s_reach_of) s.heap.objs.size f cdv))) :
    SS (cxOf CX0 P w K mg base ["width", "starts", "row", "wide", "one", "other"] "reach_of" (defScope s_reach_of) f cdv A outer s H E).nox cl ((defBody s_reach_of).getD 3 (.Pass ⟨0, 0, 0, 0⟩)) m_reach_of_4 := by
  exact (ss_ret (se_sub (se_var (i := 0)) (se_var (i := 3))))
theorem ok_reach_of {f : Addr} {fd : FuncData} (F : Fun K "reach_of" "reach_of" s_reach_of f fd) (B : Bt mg) (S_tupled : FS P w K mg base cl 5 "tupled" 1 (m_tupled 4)) : FnOk P w K mg base CX0 6 f fd ["width", "starts"] (spM K cl 2 m_reach_of) := by
  refine def_ok (N := ["width", "starts", "row", "wide", "one", "other"]) (n := 2) F sc_reach_of rfl (fun cdv A outer s H E hr => ?_)
  exact (sss_cons (t_reach_of_0 B S_tupled cdv A outer s H E hr)
    (sss_cons (t_reach_of_1 B S_tupled cdv A outer s H E hr)
    (sss_cons (t_reach_of_3 B S_tupled cdv A outer s H E hr)
    (sss_one (t_reach_of_4 B S_tupled cdv A outer s H E hr)))))
theorem fs_reach_of {f : Addr} {fd : FuncData} (F : Fun K "reach_of" "reach_of" s_reach_of f fd) (hm : mg "reach_of" = some (.ref f)) (B : Bt mg) (S_tupled : FS P w K mg base cl 5 "tupled" 1 (m_tupled 4)) : FS P w K mg base cl 6 "reach_of" 2 m_reach_of :=
  ⟨⟨f, fd, ["width", "starts"], ok_reach_of F B S_tupled, hm, F.kp, F.binds (ps := ["width", "starts"]) fun _ _ _ _ _ _ us hl => match us, hl with | [_, _], _ => rfl, rfl⟩, fun rs μ z h => mDef_ar rs μ z h⟩
theorem fk_reach_of_0 {f : Addr} {fd : FuncData} (F : Fun K "reach_of" "reach_of" s_reach_of f fd) (hm : mg "reach_of" = some (.ref f)) (B : Bt mg) (S_tupled : FS P w K mg base cl 5 "tupled" 1 (m_tupled 4)) : FK P w K mg base cl 6 "reach_of" 2 m_reach_of 0 ["starts", "width"] [1, 0] := by
  refine ⟨⟨f, fd, ["width", "starts"], ok_reach_of F B S_tupled, hm, F.kp, kbn_of fun s us ws _ h1 h2 => ?_⟩, fun rs μ z h => mDef_ar rs μ z h⟩
  obtain ⟨oc, od, kV, doc, pm, an, cdv, ct, osl, rfl, lk, hcd⟩ := F.ex
  exact match us, h1, ws, h2 with | [], _, [_, _], _ => .of_eq rfl
end
end NS
set_option Elab.async false
set_option linter.all false
set_option maxRecDepth 100000
set_option maxHeartbeats 4000000
namespace NS
open PySem PySem.Spec PyProof.Rows L2 DL
section
variable {P : Program} {w : World} {K : PySem.W.Frag} {mg : Str → Option Value} {base : Heap} {cl : Nat → Addr}
theorem t_missed_by_0 {f : Addr} (B : Bt mg) (S_tupled : FS P w K mg base cl 5 "tupled" 1 (m_tupled 4)) (S_is_torn : FS P w K mg base cl 1 "is_torn" 3 m_is_torn) (S_reach_of : FS P w K mg base cl 6 "reach_of" 2 m_reach_of) (cdv : Value) (A : Around) (outer : List Env) (s : Shared) (H : Hp) (E : XK) (hr : Room 6 (A.deeper (envOfC "missed_by" (defScope s_missed_by) s.heap.objs.size f cdv))) :
    SS (cxOf CX0 P w K mg base ["width", "starts", "row", "amount", "pairs", "one", "pair", "start"] "missed_by" (defScope s_missed_by) f cdv A outer s H E).nox cl ((defBody s_missed_by).getD 0 (.Pass ⟨0, 0, 0, 0⟩)) m_missed_by_0 := by
  exact (ss_asg (se_tup (sa_cons (se_call S_tupled.x hr (by decide) (sa_cons (se_var (i := 1)) sa_nil)) (sa_cons (se_add (se_call S_reach_of.x hr (by decide) (sa_cons (se_var (i := 0)) (sa_cons (se_var (i := 1)) sa_nil))) se_int) sa_nil))) (sg_pair (i := 2) (j := 3) (vs := [2, 3]) sc_missed_by.nd))
theorem t_missed_by_2 {f : Addr} (B : Bt mg) (S_tupled : FS P w K mg base cl 5 "tupled" 1 (m_tupled 4)) (S_is_torn : FS P w K mg base cl 1 "is_torn" 3 m_is_torn) (S_reach_of : FS P w K mg base cl 6 "reach_of" 2 m_reach_of) (cdv : Value) (A : Around) (outer : List Env) (s : Shared) (H : Hp) (E : XK) (hr : Room 6 (A.deeper (envOfC "missed_by" (defScope s_missed_by) s.heap.objs.size f cdv))) :
    SS (cxOf CX0 P w K mg base ["width", "starts", "row", "amount", "pairs", "one", "pair", "start"] "missed_by" (defScope s_missed_by) f cdv A outer s H E).nox cl ((defBody s_missed_by).getD 1 (.Pass ⟨0, 0, 0, 0⟩)) m_missed_by_2 := by
  exact (ss_setLc (i := 4) (own := [("one", 5)]) sc_missed_by.nd (si_range1 B.range (sa_cons (se_var (i := 0)) sa_nil)) (sem_name (by decide)) (fun _ _ _ _ _ => (sg_name (cl := cl) (vs := [5]) (i := 5) sc_missed_by.nd).1) (fun _ _ _ _ _ => stt_nil) (fun _ _ _ _ _ => (se_tup (sa_cons (se_var (i := 5)) (sa_cons (se_add (se_var (i := 5)) (se_var (i := 3))) sa_nil)))) (blkOk_by (by kernel_rfl)) (sw_true rfl rfl rfl (by decide +kernel)))
theorem t_missed_by_6 {f : Addr} (B : Bt mg) (S_tupled : FS P w K mg base cl 5 "tupled" 1 (m_tupled 4)) (S_is_torn : FS P w K mg base cl 1 "is_torn" 3 m_is_torn) (S_reach_of : FS P w K mg base cl 6 "reach_of" 2 m_reach_of) (cdv : Value) (A : Around) (outer : List Env) (s : Shared) (H : Hp) (E : XK) (hr : Room 6 (A.deeper (envOfC "missed_by" (defScope s_missed_by) s.heap.objs.size f cdv))) :
    SS (cxOf CX0 P w K mg base ["width", "starts", "row", "amount", "pairs", "one", "pair", "start"] "missed_by" (defScope s_missed_by) f cdv A outer s H E).nox cl ((defBody s_missed_by).getD 2 (.Pass ⟨0, 0, 0, 0⟩)) m_missed_by_6 := by
  exact (ss_ret (se_ix (se_lc (own := [("pair", 6)]) sc_missed_by.nd (si_seq (se_var (i := 4))) (sem_name (by decide)) (fun _ _ _ _ _ => (sg_name (cl := cl) (vs := [6]) (i := 6) sc_missed_by.nd).1) (fun _ _ _ _ _ => (stt_one (st_val (se_all B.all (sa_cons (se_lc (own := [("start", 7)]) sc_missed_by.nd (si_seq (se_var (i := 2))) (sem_name (by decide)) (fun _ _ _ _ _ => (sg_name (cl := cl) (vs := [7]) (i := 7) sc_missed_by.nd).1) (fun _ _ _ _ _ => stt_nil) (fun _ _ _ _ _ => (se_call S_is_torn.x hr (by decide) (sa_cons (se_var (i := 6)) (sa_cons (se_var (i := 0)) (sa_cons (se_var (i := 7)) sa_nil))))) (blkOk_by (by kernel_rfl))) sa_nil))))) (fun _ _ _ _ _ => (se_var (i := 6))) (blkOk_by (by kernel_rfl))) se_int))
theorem ok_missed_by {f : Addr} {fd : FuncData} (F : Fun K "missed_by" "missed_by" s_missed_by f fd) (B : Bt mg) (S_tupled : FS P w K mg base cl 5 "tupled" 1 (m_tupled 4)) (S_is_torn : FS P w K mg base cl 1 "is_torn" 3 m_is_torn) (S_reach_of : FS P w K mg base cl 6 "reach_of" 2 m_reach_of) : FnOk P w K mg base CX0 7 f fd ["width", "starts"] (spM K cl 2 m_missed_by) := by
  refine def_ok (N := ["width", "starts", "row", "amount", "pairs", "one", "pair", "start"]) (n := 2) F sc_missed_by rfl (fun cdv A outer s H E hr => ?_)
  exact (sss_cons (t_missed_by_0 B S_tupled S_is_torn S_reach_of cdv A outer s H E hr)
    (sss_cons (t_missed_by_2 B S_tupled S_is_torn S_reach_of cdv A outer s H E hr)
    (sss_one (t_missed_by_6 B S_tupled S_is_torn S_reach_of cdv A outer s H E hr))))
theorem fs_missed_by {f : Addr} {fd : FuncData} (F : Fun K "missed_by" "missed_by" s_missed_by f fd) (hm : mg "missed_by" = some (.ref f)) (B : Bt mg) (S_tupled : FS P w K mg base cl 5 "tupled" 1 (m_tupled 4)) (S_is_torn : FS P w K mg base cl 1 "is_torn" 3 m_is_torn) (S_reach_of : FS P w K mg base cl 6 "reach_of" 2 m_reach_of) : FS P w K mg base cl 7 "missed_by" 2 m_missed_by :=
  ⟨⟨f, fd, ["width", "starts"], ok_missed_by F B S_tupled S_is_torn S_reach_of, hm, F.kp, F.binds (ps := ["width", "starts"]) fun _ _ _ _ _ _ us hl => match us, hl with | [_, _], _ => rfl, rfl⟩, fun rs μ z h => mDef_ar rs μ z h⟩
theorem fk_missed_by_0 {f : Addr} {fd : FuncData} (F : Fun K "missed_by" "missed_by" s_missed_by f fd) (hm : mg "missed_by" = some (.ref f)) (B : Bt mg) (S_tupled : FS P w K mg base cl 5 "tupled" 1 (m_tupled 4)) (S_is_torn : FS P w K mg base cl 1 "is_torn" 3 m_is_torn) (S_reach_of : FS P w K mg base cl 6 "reach_of" 2 m_reach_of) : FK P w K mg base cl 7 "missed_by" 2 m_missed_by 0 ["starts", "width"] [1, 0] := by
  refine ⟨⟨f, fd, ["width", "starts"], ok_missed_by F B S_tupled S_is_torn S_reach_of, hm, F.kp, kbn_of fun s us ws _ h1 h2 => ?_⟩, fun rs μ z h => mDef_ar rs μ z h⟩
  obtain ⟨oc, od, kV, doc, pm, an, cdv, ct, osl, rfl, lk, hcd⟩ := F.ex
  exact match us, h1, ws, h2 with | [], _, [_, _], _ => .of_eq rfl
end
end NS
set_option Elab.async false
set_option linter.all false
set_option maxRecDepth 100000
set_option maxHeartbeats 4000000
namespace NS
open PySem PySem.Spec PyProof.Rows L2 DL
section
variable {P : Program} {w : World} {K : PySem.W.Frag} {mg : Str → Option Value} {base : Heap} {cl : Nat → Addr}
theorem t_best_reach_0 {f : Addr} (B : Bt mg) (cdv : Value) (A : Around) (outer : List Env) (s : Shared) (H : Hp) (E : XK) (hr : Room 0 (A.deeper (envOfC "best_reach" (defScope s_best_reach) s.heap.objs.size f cdv))) :
    SS (cxOf CX0 P w K mg base ["width", "many"] "best_reach" (defScope s_best_reach) f cdv A outer s H E).nox cl ((defBody s_best_reach).getD 0 (.Pass ⟨0, 0, 0, 0⟩)) m_best_reach_0 := by
  exact (ss_ret (se_sub (se_var (i := 0)) (se_div (se_sub (se_add (se_var (i := 0)) (se_var (i := 1))) se_int) (se_var (i := 1)))))
theorem ok_best_reach {f : Addr} {fd : FuncData} (F : Fun K "best_reach" "best_reach" s_best_reach f fd) (B : Bt mg) : FnOk P w K mg base CX0 1 f fd ["width", "many"] (spM K cl 2 m_best_reach) := by
  refine def_ok (N := ["width", "many"]) (n := 2) F sc_best_reach rfl (fun cdv A outer s H E hr => ?_)
  exact (sss_one (t_best_reach_0 B cdv A outer s H E hr))
theorem fs_best_reach {f : Addr} {fd : FuncData} (F : Fun K "best_reach" "best_reach" s_best_reach f fd) (hm : mg "best_reach" = some (.ref f)) (B : Bt mg) : FS P w K mg base cl 1 "best_reach" 2 m_best_reach :=
  ⟨⟨f, fd, ["width", "many"], ok_best_reach F B, hm, F.kp, F.binds (ps := ["width", "many"]) fun _ _ _ _ _ _ us hl => match us, hl with | [_, _], _ => rfl, rfl⟩, fun rs μ z h => mDef_ar rs μ z h⟩
theorem fk_best_reach_0 {f : Addr} {fd : FuncData} (F : Fun K "best_reach" "best_reach" s_best_reach f fd) (hm : mg "best_reach" = some (.ref f)) (B : Bt mg) : FK P w K mg base cl 1 "best_reach" 2 m_best_reach 0 ["many", "width"] [1, 0] := by
  refine ⟨⟨f, fd, ["width", "many"], ok_best_reach F B, hm, F.kp, kbn_of fun s us ws _ h1 h2 => ?_⟩, fun rs μ z h => mDef_ar rs μ z h⟩
  obtain ⟨oc, od, kV, doc, pm, an, cdv, ct, osl, rfl, lk, hcd⟩ := F.ex
  exact match us, h1, ws, h2 with | [], _, [_, _], _ => .of_eq rfl
end
end NS
set_option Elab.async false
set_option linter.all false
set_option maxRecDepth 100000
set_option maxHeartbeats 4000000
namespace NS
open PySem PySem.Spec PyProof.Rows L2 DL
section
variable {P : Program} {w : World} {K : PySem.W.Frag} {mg : Str → Option Value} {base : Heap} {cl : Nat → Addr}
theorem t_law_box_0 {f : Addr} (B : Bt mg) (cdv : Value) (A : Around) (outer : List Env) (s : Shared) (H : Hp) (E : XK) (hr : Room 0 (A.deeper (envOfC "_law_box" (defScope s_law_box) s.heap.objs.size f cdv))) :
    SS (cxOf CX0 P w K mg base ["_law_script", "_law_k", "_law_cell"] "_law_box" (defScope s_law_box) f cdv A outer s H E).nox cl ((defBody s_law_box).getD 0 (.Pass ⟨0, 0, 0, 0⟩)) m_law_box_0 := by
  exact (ss_set (i := 2) sc_law_box.nd (se_if (st_lt hr.units0 (se_var (i := 1)) (se_len B.len (sa_cons (se_var (i := 0)) sa_nil))) (se_ix (se_var (i := 0)) (se_var (i := 1))) se_int))
theorem t_law_box_1 {f : Addr} (B : Bt mg) (cdv : Value) (A : Around) (outer : List Env) (s : Shared) (H : Hp) (E : XK) (hr : Room 0 (A.deeper (envOfC "_law_box" (defScope s_law_box) s.heap.objs.size f cdv))) :
    SS (cxOf CX0 P w K mg base ["_law_script", "_law_k", "_law_cell"] "_law_box" (defScope s_law_box) f cdv A outer s H E).nox cl ((defBody s_law_box).getD 1 (.Pass ⟨0, 0, 0, 0⟩)) m_law_box_1 := by
  exact (ss_ret (se_lst (sa_cons (se_mul (se_abs B.abs (sa_cons (se_var (i := 2)) sa_nil)) (se_int1 B.int (sa_cons (se_ge (se_abs B.abs (sa_cons (se_var (i := 2)) sa_nil)) (se_pow se_int se_int)) sa_nil))) (sa_cons (se_add (se_add (se_mod (se_int1 B.int (sa_cons (se_var (i := 2)) sa_nil)) se_int) (se_mul se_int (se_var (i := 1)))) se_int) (sa_cons se_int sa_nil)))))
theorem ok_law_box {f : Addr} {fd : FuncData} (F : Fun K "_law_box" "_law_box" s_law_box f fd) (B : Bt mg) : FnOk P w K mg base CX0 1 f fd ["_law_script", "_law_k"] (spM K cl 2 m_law_box) := by
  refine def_ok (N := ["_law_script", "_law_k", "_law_cell"]) (n := 2) F sc_law_box rfl (fun cdv A outer s H E hr => ?_)
  exact (sss_cons (t_law_box_0 B cdv A outer s H E hr)
    (sss_one (t_law_box_1 B cdv A outer s H E hr)))
theorem fs_law_box {f : Addr} {fd : FuncData} (F : Fun K "_law_box" "_law_box" s_law_box f fd) (hm : mg "_law_box" = some (.ref f)) (B : Bt mg) : FS P w K mg base cl 1 "_law_box" 2 m_law_box :=
  ⟨⟨f, fd, ["_law_script", "_law_k"], ok_law_box F B, hm, F.kp, F.binds (ps := ["_law_script", "_law_k"]) fun _ _ _ _ _ _ us hl => match us, hl with | [_, _], _ => rfl, rfl⟩, fun rs μ z h => mDef_ar rs μ z h⟩
end
end NS
set_option Elab.async false
set_option linter.all false
set_option maxRecDepth 100000
set_option maxHeartbeats 4000000
namespace NS
open PySem PySem.Spec PyProof.Rows L2 DL
section
variable {P : Program} {w : World} {K : PySem.W.Frag} {mg : Str → Option Value} {base : Heap} {cl : Nat → Addr}
theorem t_law_take_0 {f : Addr} (B : Bt mg) (cdv : Value) (A : Around) (outer : List Env) (s : Shared) (H : Hp) (E : XK) (hr : Room 0 (A.deeper (envOfC "_law_take" (defScope s_law_take) s.heap.objs.size f cdv))) :
    SS (cxOf CX0 P w K mg base ["_law_box_here", "_law_below", "_law_drawn", "_law_once", "_law_far", "_law_twice"] "_law_take" (defScope s_law_take) f cdv A outer s H E).nox cl ((sub1 ((defBody s_law_take).getD 0 (.Pass ⟨0, 0, 0, 0⟩))).getD 0 (.Pass ⟨0, 0, 0, 0⟩)) m_law_take_0 := by
  exact (ss_set (i := 2) sc_law_take.nd (se_mod (se_int1 B.int (sa_cons (se_ix (se_var (i := 0)) se_int) sa_nil)) (se_var (i := 1))))
theorem t_law_take_1 {f : Addr} (B : Bt mg) (cdv : Value) (A : Around) (outer : List Env) (s : Shared) (H : Hp) (E : XK) (hr : Room 0 (A.deeper (envOfC "_law_take" (defScope s_law_take) s.heap.objs.size f cdv))) :
    SS (cxOf CX0 P w K mg base ["_law_box_here", "_law_below", "_law_drawn", "_law_once", "_law_far", "_law_twice"] "_law_take" (defScope s_law_take) f cdv A outer s H E).nox cl ((sub1 ((defBody s_law_take).getD 0 (.Pass ⟨0, 0, 0, 0⟩))).getD 1 (.Pass ⟨0, 0, 0, 0⟩)) m_law_take_1 := by
  exact (ss_put (se_var (i := 0)) se_int (se_div (se_ix (se_var (i := 0)) se_int) (se_var (i := 1))))
theorem t_law_take_2 {f : Addr} (B : Bt mg) (cdv : Value) (A : Around) (outer : List Env) (s : Shared) (H : Hp) (E : XK) (hr : Room 0 (A.deeper (envOfC "_law_take" (defScope s_law_take) s.heap.objs.size f cdv))) :
    SS (cxOf CX0 P w K mg base ["_law_box_here", "_law_below", "_law_drawn", "_law_once", "_law_far", "_law_twice"] "_law_take" (defScope s_law_take) f cdv A outer s H E).nox cl ((sub1 ((defBody s_law_take).getD 0 (.Pass ⟨0, 0, 0, 0⟩))).getD 2 (.Pass ⟨0, 0, 0, 0⟩)) m_law_take_2 := by
  exact (ss_ret (se_var (i := 2)))
theorem t_law_take_3 {f : Addr} (B : Bt mg) (cdv : Value) (A : Around) (outer : List Env) (s : Shared) (H : Hp) (E : XK) (hr : Room 0 (A.deeper (envOfC "_law_take" (defScope s_law_take) s.heap.objs.size f cdv))) :
    SS (cxOf CX0 P w K mg base ["_law_box_here", "_law_below", "_law_drawn", "_law_once", "_law_far", "_law_twice"] "_law_take" (defScope s_law_take) f cdv A outer s H E).nox cl ((defBody s_law_take).getD 0 (.Pass ⟨0, 0, 0, 0⟩)) m_law_take_3 := by
  exact (ss_if (st_gt (se_ix (se_var (i := 0)) se_int) se_int) (sss_cons (t_law_take_0 B cdv A outer s H E hr)
    (sss_cons (t_law_take_1 B cdv A outer s H E hr)
    (sss_one (t_law_take_2 B cdv A outer s H E hr)))) sss_nil)
theorem t_law_take_4 {f : Addr} (B : Bt mg) (cdv : Value) (A : Around) (outer : List Env) (s : Shared) (H : Hp) (E : XK) (hr : Room 0 (A.deeper (envOfC "_law_take" (defScope s_law_take) s.heap.objs.size f cdv))) :
    SS (cxOf CX0 P w K mg base ["_law_box_here", "_law_below", "_law_drawn", "_law_once", "_law_far", "_law_twice"] "_law_take" (defScope s_law_take) f cdv A outer s H E).nox cl ((defBody s_law_take).getD 1 (.Pass ⟨0, 0, 0, 0⟩)) m_law_take_4 := by
  exact (ss_put (se_var (i := 0)) se_int (se_add (se_ix (se_var (i := 0)) se_int) se_int))
theorem t_law_take_5 {f : Addr} (B : Bt mg) (cdv : Value) (A : Around) (outer : List Env) (s : Shared) (H : Hp) (E : XK) (hr : Room 0 (A.deeper (envOfC "_law_take" (defScope s_law_take) s.heap.objs.size f cdv))) :
    SS (cxOf CX0 P w K mg base ["_law_box_here", "_law_below", "_law_drawn", "_law_once", "_law_far", "_law_twice"] "_law_take" (defScope s_law_take) f cdv A outer s H E).nox cl ((defBody s_law_take).getD 2 (.Pass ⟨0, 0, 0, 0⟩)) m_law_take_5 := by
  exact (ss_set (i := 3) sc_law_take.nd (se_mod (se_int1 B.int (sa_cons (se_mul (se_add (se_ix (se_var (i := 0)) se_int) (se_mul se_int (se_ix (se_var (i := 0)) se_int))) (se_add se_int (se_ix (se_var (i := 0)) se_int))) sa_nil)) se_int))
theorem t_law_take_6 {f : Addr} (B : Bt mg) (cdv : Value) (A : Around) (outer : List Env) (s : Shared) (H : Hp) (E : XK) (hr : Room 0 (A.deeper (envOfC "_law_take" (defScope s_law_take) s.heap.objs.size f cdv))) :
    SS (cxOf CX0 P w K mg base ["_law_box_here", "_law_below", "_law_drawn", "_law_once", "_law_far", "_law_twice"] "_law_take" (defScope s_law_take) f cdv A outer s H E).nox cl ((defBody s_law_take).getD 3 (.Pass ⟨0, 0, 0, 0⟩)) m_law_take_6 := by
  exact (ss_set (i := 4) sc_law_take.nd (se_add (se_mod (se_int1 B.int (sa_cons (se_var (i := 3)) sa_nil)) se_int) se_int))
theorem t_law_take_7 {f : Addr} (B : Bt mg) (cdv : Value) (A : Around) (outer : List Env) (s : Shared) (H : Hp) (E : XK) (hr : Room 0 (A.deeper (envOfC "_law_take" (defScope s_law_take) s.heap.objs.size f cdv))) :
    SS (cxOf CX0 P w K mg base ["_law_box_here", "_law_below", "_law_drawn", "_law_once", "_law_far", "_law_twice"] "_law_take" (defScope s_law_take) f cdv A outer s H E).nox cl ((defBody s_law_take).getD 4 (.Pass ⟨0, 0, 0, 0⟩)) m_law_take_7 := by
  exact (ss_set (i := 5) sc_law_take.nd (se_mod (se_int1 B.int (sa_cons (se_mul (se_add (se_add (se_var (i := 3)) (se_ix (se_var (i := 0)) se_int)) (se_div (se_ix (se_var (i := 0)) se_int) se_int)) (se_var (i := 4))) sa_nil)) se_int))
theorem t_law_take_8 {f : Addr} (B : Bt mg) (cdv : Value) (A : Around) (outer : List Env) (s : Shared) (H : Hp) (E : XK) (hr : Room 0 (A.deeper (envOfC "_law_take" (defScope s_law_take) s.heap.objs.size f cdv))) :
    SS (cxOf CX0 P w K mg base ["_law_box_here", "_law_below", "_law_drawn", "_law_once", "_law_far", "_law_twice"] "_law_take" (defScope s_law_take) f cdv A outer s H E).nox cl ((defBody s_law_take).getD 5 (.Pass ⟨0, 0, 0, 0⟩)) m_law_take_8 := by
  exact (ss_ret (se_mod (se_int1 B.int (sa_cons (se_div (se_mod (se_int1 B.int (sa_cons (se_add (se_mul (se_var (i := 5)) se_int) (se_var (i := 3))) sa_nil)) se_int) se_int) sa_nil)) (se_var (i := 1))))
theorem ok_law_take {f : Addr} {fd : FuncData} (F : Fun K "_law_take" "_law_take" s_law_take f fd) (B : Bt mg) : FnOk P w K mg base CX0 1 f fd ["_law_box_here", "_law_below"] (spM K cl 2 m_law_take) := by
  refine def_ok (N := ["_law_box_here", "_law_below", "_law_drawn", "_law_once", "_law_far", "_law_twice"]) (n := 2) F sc_law_take rfl (fun cdv A outer s H E hr => ?_)
  exact (sss_cons (t_law_take_3 B cdv A outer s H E hr)
    (sss_cons (t_law_take_4 B cdv A outer s H E hr)
    (sss_cons (t_law_take_5 B cdv A outer s H E hr)
    (sss_cons (t_law_take_6 B cdv A outer s H E hr)
    (sss_cons (t_law_take_7 B cdv A outer s H E hr)
    (sss_one (t_law_take_8 B cdv A outer s H E hr)))))))
theorem fs_law_take {f : Addr} {fd : FuncData} (F : Fun K "_law_take" "_law_take" s_law_take f fd) (hm : mg "_law_take" = some (.ref f)) (B : Bt mg) : FS P w K mg base cl 1 "_law_take" 2 m_law_take :=
  ⟨⟨f, fd, ["_law_box_here", "_law_below"], ok_law_take F B, hm, F.kp, F.binds (ps := ["_law_box_here", "_law_below"]) fun _ _ _ _ _ _ us hl => match us, hl with | [_, _], _ => rfl, rfl⟩, fun rs μ z h => mDef_ar rs μ z h⟩
end
end NS
set_option Elab.async false
set_option linter.all false
set_option maxRecDepth 100000
set_option maxHeartbeats 4000000
namespace NS
open PySem PySem.Spec PyProof.Rows L2 DL
section
variable {P : Program} {w : World} {K : PySem.W.Frag} {mg : Str → Option Value} {base : Heap} {cl : Nat → Addr}
theorem t_law_cells_0 {f : Addr} (B : Bt mg) (cdv : Value) (A : Around) (outer : List Env) (s : Shared) (H : Hp) (E : XK) (hr : Room 0 (A.deeper (envOfC "_law_cells" (defScope s_law_cells) s.heap.objs.size f cdv))) :
    SS (cxOf CX0 P w K mg base ["_law_script", "_law_most_so", "_law_slots_so", "_law_k", "_law_cell", "_law_at_so"] "_law_cells" (defScope s_law_cells) f cdv A outer s H E).nox cl ((defBody s_law_cells).getD 0 (.Pass ⟨0, 0, 0, 0⟩)) m_law_cells_0 := by
  exact (ss_setC (i := 2) sc_law_cells.nd (se_or (se_list B.list (sa_cons (se_slice (se_var (i := 0)) so_none (so_some (se_var (i := 1)))) sa_nil)) (se_one (se_lst (sa_cons se_int sa_nil)))))
theorem t_law_cells_1 {f : Addr} (B : Bt mg) (cdv : Value) (A : Around) (outer : List Env) (s : Shared) (H : Hp) (E : XK) (hr : Room 0 (A.deeper (envOfC "_law_cells" (defScope s_law_cells) s.heap.objs.size f cdv))) :
    SS (cxOf CX0 P w K mg base ["_law_script", "_law_most_so", "_law_slots_so", "_law_k", "_law_cell", "_law_at_so"] "_law_cells" (defScope s_law_cells) f cdv A outer s H E).nox cl ((sub1 ((defBody s_law_cells).getD 1 (.Pass ⟨0, 0, 0, 0⟩))).getD 0 (.Pass ⟨0, 0, 0, 0⟩)) m_law_cells_1 := by
  exact (ss_set (i := 5) sc_law_cells.nd (se_mod (se_int1 B.int (sa_cons (se_var (i := 3)) sa_nil)) (se_var (i := 1))))
theorem t_law_cells_2 {f : Addr} (B : Bt mg) (cdv : Value) (A : Around) (outer : List Env) (s : Shared) (H : Hp) (E : XK) (hr : Room 0 (A.deeper (envOfC "_law_cells" (defScope s_law_cells) s.heap.objs.size f cdv))) :
    SS (cxOf CX0 P w K mg base ["_law_script", "_law_most_so", "_law_slots_so", "_law_k", "_law_cell", "_law_at_so"] "_law_cells" (defScope s_law_cells) f cdv A outer s H E).nox cl ((sub1 ((defBody s_law_cells).getD 1 (.Pass ⟨0, 0, 0, 0⟩))).getD 1 (.Pass ⟨0, 0, 0, 0⟩)) m_law_cells_2 := by
  exact (ss_put (se_var (i := 2)) (se_var (i := 5)) (se_add (se_ix (se_var (i := 2)) (se_var (i := 5))) (se_mul (se_var (i := 4)) (se_add (se_var (i := 3)) se_int))))
theorem t_law_cells_4 {f : Addr} (B : Bt mg) (cdv : Value) (A : Around) (outer : List Env) (s : Shared) (H : Hp) (E : XK) (hr : Room 0 (A.deeper (envOfC "_law_cells" (defScope s_law_cells) s.heap.objs.size f cdv))) :
    SS (cxOf CX0 P w K mg base ["_law_script", "_law_most_so", "_law_slots_so", "_law_k", "_law_cell", "_law_at_so"] "_law_cells" (defScope s_law_cells) f cdv A outer s H E).nox cl ((defBody s_law_cells).getD 1 (.Pass ⟨0, 0, 0, 0⟩)) m_law_cells_4 := by
  exact (ss_for (si_enum B.enumerate (sa_cons (se_slice (se_var (i := 0)) (so_some (se_var (i := 1))) (so_some se_int)) sa_nil)) (sg_pair (i := 3) (j := 4) (vs := [3, 4]) sc_law_cells.nd) (sss_cons (t_law_cells_1 B cdv A outer s H E hr)
    (sss_one (t_law_cells_2 B cdv A outer s H E hr))))
theorem t_law_cells_5 {f : Addr} (B : Bt mg) (cdv : Value) (A : Around) (outer : List Env) (s : Shared) (H : Hp) (E : XK) (hr : Room 0 (A.deeper (envOfC "_law_cells" (defScope s_law_cells) s.heap.objs.size f cdv))) :
    SS (cxOf CX0 P w K mg base ["_law_script", "_law_most_so", "_law_slots_so", "_law_k", "_law_cell", "_law_at_so"] "_law_cells" (defScope s_law_cells) f cdv A outer s H E).nox cl ((defBody s_law_cells).getD 2 (.Pass ⟨0, 0, 0, 0⟩)) m_law_cells_5 := by
  exact (ss_ret (se_var (i := 2)))
theorem ok_law_cells {f : Addr} {fd : FuncData} (F : Fun K "_law_cells" "_law_cells" s_law_cells f fd) (B : Bt mg) : FnOk P w K mg base CX0 1 f fd ["_law_script", "_law_most_so"] (spM K cl 2 m_law_cells) := by
  refine def_ok (N := ["_law_script", "_law_most_so", "_law_slots_so", "_law_k", "_law_cell", "_law_at_so"]) (n := 2) F sc_law_cells rfl (fun cdv A outer s H E hr => ?_)
  exact (sss_cons (t_law_cells_0 B cdv A outer s H E hr)
    (sss_cons (t_law_cells_4 B cdv A outer s H E hr)
    (sss_one (t_law_cells_5 B cdv A outer s H E hr))))
theorem fs_law_cells {f : Addr} {fd : FuncData} (F : Fun K "_law_cells" "_law_cells" s_law_cells f fd) (hm : mg "_law_cells" = some (.ref f)) (B : Bt mg) : FS P w K mg base cl 1 "_law_cells" 2 m_law_cells :=
  ⟨⟨f, fd, ["_law_script", "_law_most_so"], ok_law_cells F B, hm, F.kp, F.binds (ps := ["_law_script", "_law_most_so"]) fun _ _ _ _ _ _ us hl => match us, hl with | [_, _], _ => rfl, rfl⟩, fun rs μ z h => mDef_ar rs μ z h⟩
end
end NS
set_option Elab.async false
set_option linter.all false
set_option maxRecDepth 100000
set_option maxHeartbeats 4000000
namespace NS
open PySem PySem.Spec PyProof.Rows L2 DL
section
variable {P : Program} {w : World} {K : PySem.W.Frag} {mg : Str → Option Value} {base : Heap} {cl : Nat → Addr}
theorem t_law_of_0 {f : Addr} (B : Bt mg) (S_law_take : FS P w K mg base cl 1 "_law_take" 2 m_law_take) (cdv : Value) (A : Around) (outer : List Env) (s : Shared) (H : Hp) (E : XK) (hr : Room 1 (A.deeper (envOfC "_law_of" (defScope s_law_of) s.heap.objs.size f cdv))) :
    SS (cxOf CX0 P w K mg base ["_law_box_here", "_law_some_so"] "_law_of" (defScope s_law_of) f cdv A outer s H E).nox cl ((defBody s_law_of).getD 0 (.Pass ⟨0, 0, 0, 0⟩)) m_law_of_0 := by
  exact (ss_ret (se_ix (se_var (i := 1)) (se_call S_law_take.x hr (by decide) (sa_cons (se_var (i := 0)) (sa_cons (se_len B.len (sa_cons (se_var (i := 1)) sa_nil)) sa_nil)))))
theorem ok_law_of {f : Addr} {fd : FuncData} (F : Fun K "_law_of" "_law_of" s_law_of f fd) (B : Bt mg) (S_law_take : FS P w K mg base cl 1 "_law_take" 2 m_law_take) : FnOk P w K mg base CX0 2 f fd ["_law_box_here", "_law_some_so"] (spM K cl 2 m_law_of) := by
  refine def_ok (N := ["_law_box_here", "_law_some_so"]) (n := 2) F sc_law_of rfl (fun cdv A outer s H E hr => ?_)
  exact (sss_one (t_law_of_0 B S_law_take cdv A outer s H E hr))
theorem fs_law_of {f : Addr} {fd : FuncData} (F : Fun K "_law_of" "_law_of" s_law_of f fd) (hm : mg "_law_of" = some (.ref f)) (B : Bt mg) (S_law_take : FS P w K mg base cl 1 "_law_take" 2 m_law_take) : FS P w K mg base cl 2 "_law_of" 2 m_law_of :=
  ⟨⟨f, fd, ["_law_box_here", "_law_some_so"], ok_law_of F B S_law_take, hm, F.kp, F.binds (ps := ["_law_box_here", "_law_some_so"]) fun _ _ _ _ _ _ us hl => match us, hl with | [_, _], _ => rfl, rfl⟩, fun rs μ z h => mDef_ar rs μ z h⟩
end
end NS
set_option Elab.async false
set_option linter.all false
set_option maxRecDepth 100000
set_option maxHeartbeats 4000000
namespace NS
open PySem PySem.Spec PyProof.Rows L2 DL
section
variable {P : Program} {w : World} {K : PySem.W.Frag} {mg : Str → Option Value} {base : Heap} {cl : Nat → Addr}
theorem t_law_same_0 {f : Addr} (B : Bt mg) {j : Nat} (S_law_same : FS P w K mg base cl (0 + j + 1) "_law_same" 2 (m_law_same j)) (cdv : Value) (A : Around) (outer : List Env) (s : Shared) (H : Hp) (E : XK) (hr : Room (0 + j + 1) (A.deeper (envOfC "_law_same" (defScope s_law_same) s.heap.objs.size f cdv))) :
    SS (cxOf CX0 P w K mg base ["_law_got", "_law_due", "_law_mine", "_law_its"] "_law_same" (defScope s_law_same) f cdv A outer s H E).nox cl ((sub1 ((sub1 ((defBody s_law_same).getD 0 (.Pass ⟨0, 0, 0, 0⟩))).getD 0 (.Pass ⟨0, 0, 0, 0⟩))).getD 0 (.Pass ⟨0, 0, 0, 0⟩)) (m_law_same_0 (m_law_same j)) := by
  exact (ss_ret se_bl)
theorem t_law_same_1 {f : Addr} (B : Bt mg) {j : Nat} (S_law_same : FS P w K mg base cl (0 + j + 1) "_law_same" 2 (m_law_same j)) (cdv : Value) (A : Around) (outer : List Env) (s : Shared) (H : Hp) (E : XK) (hr : Room (0 + j + 1) (A.deeper (envOfC "_law_same" (defScope s_law_same) s.heap.objs.size f cdv))) :
    SS (cxOf CX0 P w K mg base ["_law_got", "_law_due", "_law_mine", "_law_its"] "_law_same" (defScope s_law_same) f cdv A outer s H E).nox cl ((sub1 ((defBody s_law_same).getD 0 (.Pass ⟨0, 0, 0, 0⟩))).getD 0 (.Pass ⟨0, 0, 0, 0⟩)) (m_law_same_1 (m_law_same j)) := by
  exact (ss_if (st_w (sw_or (st_ne hr.units (se_isi B.isinstance B.list (by decide) boot_list' (se_var (i := 0))) (se_isi B.isinstance B.list (by decide) boot_list' (se_var (i := 1)))) (sw_or1 (st_ne hr.units (se_isi B.isinstance B.tuple (by decide) boot_tuple' (se_var (i := 0))) (se_isi B.isinstance B.tuple (by decide) boot_tuple' (se_var (i := 1))))))) (sss_one (t_law_same_0 B S_law_same cdv A outer s H E hr)) sss_nil)
theorem t_law_same_3 {f : Addr} (B : Bt mg) {j : Nat} (S_law_same : FS P w K mg base cl (0 + j + 1) "_law_same" 2 (m_law_same j)) (cdv : Value) (A : Around) (outer : List Env) (s : Shared) (H : Hp) (E : XK) (hr : Room (0 + j + 1) (A.deeper (envOfC "_law_same" (defScope s_law_same) s.heap.objs.size f cdv))) :
    SS (cxOf CX0 P w K mg base ["_law_got", "_law_due", "_law_mine", "_law_its"] "_law_same" (defScope s_law_same) f cdv A outer s H E).nox cl ((sub1 ((defBody s_law_same).getD 0 (.Pass ⟨0, 0, 0, 0⟩))).getD 1 (.Pass ⟨0, 0, 0, 0⟩)) (m_law_same_3 (m_law_same j)) := by
  exact (ss_ret (se_and (se_eq hr.units (se_len B.len (sa_cons (se_var (i := 0)) sa_nil)) (se_len B.len (sa_cons (se_var (i := 1)) sa_nil))) (se_one (se_all B.all (sa_cons (se_lc (own := [("_law_mine", 2), ("_law_its", 3)]) sc_law_same.nd (si_zip B.zip (sa_cons (se_var (i := 0)) (sa_cons (se_var (i := 1)) sa_nil))) (sem_pair (by decide) (by decide)) (fun _ _ _ _ _ => (sg_pair (cl := cl) (vs := [2, 3]) (i := 2) (j := 3) sc_law_same.nd).1) (fun _ _ _ _ _ => stt_nil) (fun _ _ _ _ _ => (se_call S_law_same.x hr (Nat.le_refl _) (sa_cons (se_var (i := 2)) (sa_cons (se_var (i := 3)) sa_nil)))) (blkOk_by (by kernel_rfl))) sa_nil)))))
theorem t_law_same_4 {f : Addr} (B : Bt mg) {j : Nat} (S_law_same : FS P w K mg base cl (0 + j + 1) "_law_same" 2 (m_law_same j)) (cdv : Value) (A : Around) (outer : List Env) (s : Shared) (H : Hp) (E : XK) (hr : Room (0 + j + 1) (A.deeper (envOfC "_law_same" (defScope s_law_same) s.heap.objs.size f cdv))) :
    SS (cxOf CX0 P w K mg base ["_law_got", "_law_due", "_law_mine", "_law_its"] "_law_same" (defScope s_law_same) f cdv A outer s H E).nox cl ((defBody s_law_same).getD 0 (.Pass ⟨0, 0, 0, 0⟩)) (m_law_same_4 (m_law_same j)) := by
  exact (ss_if (st_val (se_isi2 B.isinstance B.list B.tuple (by decide) (by decide) boot_list' boot_tuple' (se_var (i := 1)))) (sss_cons (t_law_same_1 B S_law_same cdv A outer s H E hr)
    (sss_one (t_law_same_3 B S_law_same cdv A outer s H E hr))) sss_nil)
theorem t_law_same_5 {f : Addr} (B : Bt mg) {j : Nat} (S_law_same : FS P w K mg base cl (0 + j + 1) "_law_same" 2 (m_law_same j)) (cdv : Value) (A : Around) (outer : List Env) (s : Shared) (H : Hp) (E : XK) (hr : Room (0 + j + 1) (A.deeper (envOfC "_law_same" (defScope s_law_same) s.heap.objs.size f cdv))) :
    SS (cxOf CX0 P w K mg base ["_law_got", "_law_due", "_law_mine", "_law_its"] "_law_same" (defScope s_law_same) f cdv A outer s H E).nox cl ((sub1 ((defBody s_law_same).getD 1 (.Pass ⟨0, 0, 0, 0⟩))).getD 0 (.Pass ⟨0, 0, 0, 0⟩)) (m_law_same_5 (m_law_same j)) := by
  exact (ss_ret (se_and (se_eq hr.units (se_var (i := 0)) (se_var (i := 1))) (se_and (se_eq hr.units (se_isi B.isinstance B.bool (by decide) boot_bool' (se_var (i := 0))) (se_isi B.isinstance B.bool (by decide) boot_bool' (se_var (i := 1)))) (se_one (se_eq hr.units (se_isN (se_var (i := 0)) se_non) (se_isN (se_var (i := 1)) se_non))))))
theorem t_law_same_6 {f : Addr} (B : Bt mg) {j : Nat} (S_law_same : FS P w K mg base cl (0 + j + 1) "_law_same" 2 (m_law_same j)) (cdv : Value) (A : Around) (outer : List Env) (s : Shared) (H : Hp) (E : XK) (hr : Room (0 + j + 1) (A.deeper (envOfC "_law_same" (defScope s_law_same) s.heap.objs.size f cdv))) :
    SS (cxOf CX0 P w K mg base ["_law_got", "_law_due", "_law_mine", "_law_its"] "_law_same" (defScope s_law_same) f cdv A outer s H E).nox cl ((defBody s_law_same).getD 1 (.Pass ⟨0, 0, 0, 0⟩)) (m_law_same_6 (m_law_same j)) := by
  exact (ss_if (st_w (sw_or (st_isN (se_var (i := 1)) se_non) (sw_or1 (st_val (se_isi2 B.isinstance B.bool B.str (by decide) (by decide) boot_bool' boot_str' (se_var (i := 1))))))) (sss_one (t_law_same_5 B S_law_same cdv A outer s H E hr)) sss_nil)
theorem t_law_same_7 {f : Addr} (B : Bt mg) {j : Nat} (S_law_same : FS P w K mg base cl (0 + j + 1) "_law_same" 2 (m_law_same j)) (cdv : Value) (A : Around) (outer : List Env) (s : Shared) (H : Hp) (E : XK) (hr : Room (0 + j + 1) (A.deeper (envOfC "_law_same" (defScope s_law_same) s.heap.objs.size f cdv))) :
    SS (cxOf CX0 P w K mg base ["_law_got", "_law_due", "_law_mine", "_law_its"] "_law_same" (defScope s_law_same) f cdv A outer s H E).nox cl ((defBody s_law_same).getD 2 (.Pass ⟨0, 0, 0, 0⟩)) (m_law_same_7 (m_law_same j)) := by
  exact (ss_ret (se_and (se_isi B.isinstance B.int (by decide) boot_int' (se_var (i := 0))) (se_and (se_not (se_isi B.isinstance B.bool (by decide) boot_bool' (se_var (i := 0)))) (se_one (se_eq hr.units (se_var (i := 0)) (se_var (i := 1)))))))
theorem ok_law_same {f : Addr} {fd : FuncData} (F : Fun K "_law_same" "_law_same" s_law_same f fd) (B : Bt mg) (hm : mg "_law_same" = some (.ref f)) (bn : Binds K fd ["_law_got", "_law_due"] []) : ∀ j : Nat, FnOk P w K mg base CX0 (0 + j + 1) f fd ["_law_got", "_law_due"] (spM K cl 2 (m_law_same j))
  | 0 => def_zero
  | j + 1 => by
    have S_law_same : FS P w K mg base cl (0 + j + 1) "_law_same" 2 (m_law_same j) := ⟨⟨f, fd, ["_law_got", "_law_due"], ok_law_same F B hm bn j, hm, F.kp, bn, rfl⟩, fun rs μ z h => by
      cases j with
      | zero => cases h
      | succ j => exact mDef_ar rs μ z h⟩
    refine def_ok (N := ["_law_got", "_law_due", "_law_mine", "_law_its"]) (n := 2) F sc_law_same rfl (fun cdv A outer s H E hr => ?_)
    exact (sss_cons (t_law_same_4 B S_law_same cdv A outer s H E hr)
    (sss_cons (t_law_same_6 B S_law_same cdv A outer s H E hr)
    (sss_one (t_law_same_7 B S_law_same cdv A outer s H E hr))))
theorem fs_law_same {f : Addr} {fd : FuncData} (F : Fun K "_law_same" "_law_same" s_law_same f fd) (hm : mg "_law_same" = some (.ref f)) (B : Bt mg) : FS P w K mg base cl 6 "_law_same" 2 (m_law_same 5) :=
  ⟨⟨f, fd, ["_law_got", "_law_due"], ok_law_same F B hm (F.binds (ps := ["_law_got", "_law_due"]) fun _ _ _ _ _ _ us hl => match us, hl with | [_, _], _ => rfl) 5, hm, F.kp, F.binds (ps := ["_law_got", "_law_due"]) fun _ _ _ _ _ _ us hl => match us, hl with | [_, _], _ => rfl, rfl⟩, fun rs μ z h => mDef_ar rs μ z h⟩
end
end NS
set_option Elab.async false
set_option linter.all false
set_option maxRecDepth 100000
set_option maxHeartbeats 4000000
namespace NS
open PySem PySem.Spec PyProof.Rows L2 DL
section
variable {P : Program} {w : World} {K : PySem.W.Frag} {mg : Str → Option Value} {base : Heap} {cl : Nat → Addr}
theorem t_law_pick_0 {f : Addr} (B : Bt mg) (S_law_take : FS P w K mg base cl 1 "_law_take" 2 m_law_take) (cdv : Value) (A : Around) (outer : List Env) (s : Shared) (H : Hp) (E : XK) (hr : Room 1 (A.deeper (envOfC "_law_pick" (defScope s_law_pick) s.heap.objs.size f cdv))) :
    SS (cxOf CX0 P w K mg base ["_law_box_here", "_law_some_so", "_law_many_so", "_law_rest", "_law_found", "_law_turn"] "_law_pick" (defScope s_law_pick) f cdv A outer s H E).nox cl ((defBody s_law_pick).getD 0 (.Pass ⟨0, 0, 0, 0⟩)) m_law_pick_0 := by
  exact (ss_par (ci := true) (cj := true) (i := 3) (j := 4) sc_law_pick.nd (se_list B.list (sa_cons (se_var (i := 1)) sa_nil)) (se_lst sa_nil))
theorem t_law_pick_1 {f : Addr} (B : Bt mg) (S_law_take : FS P w K mg base cl 1 "_law_take" 2 m_law_take) (cdv : Value) (A : Around) (outer : List Env) (s : Shared) (H : Hp) (E : XK) (hr : Room 1 (A.deeper (envOfC "_law_pick" (defScope s_law_pick) s.heap.objs.size f cdv))) :
    SS (cxOf CX0 P w K mg base ["_law_box_here", "_law_some_so", "_law_many_so", "_law_rest", "_law_found", "_law_turn"] "_law_pick" (defScope s_law_pick) f cdv A outer s H E).nox cl ((sub1 ((defBody s_law_pick).getD 1 (.Pass ⟨0, 0, 0, 0⟩))).getD 0 (.Pass ⟨0, 0, 0, 0⟩)) m_law_pick_1 := by
  exact (ss_expr (se_append (se_var (i := 4)) (sa_cons (se_popAt (se_var (i := 3)) (sa_cons (se_call S_law_take.x hr (by decide) (sa_cons (se_var (i := 0)) (sa_cons (se_len B.len (sa_cons (se_var (i := 3)) sa_nil)) sa_nil))) sa_nil)) sa_nil)))
theorem t_law_pick_2 {f : Addr} (B : Bt mg) (S_law_take : FS P w K mg base cl 1 "_law_take" 2 m_law_take) (cdv : Value) (A : Around) (outer : List Env) (s : Shared) (H : Hp) (E : XK) (hr : Room 1 (A.deeper (envOfC "_law_pick" (defScope s_law_pick) s.heap.objs.size f cdv))) :
    SS (cxOf CX0 P w K mg base ["_law_box_here", "_law_some_so", "_law_many_so", "_law_rest", "_law_found", "_law_turn"] "_law_pick" (defScope s_law_pick) f cdv A outer s H E).nox cl ((defBody s_law_pick).getD 1 (.Pass ⟨0, 0, 0, 0⟩)) m_law_pick_2 := by
  exact (ss_for (si_range1 B.range (sa_cons (se_min B.min (sa_cons (se_int1 B.int (sa_cons (se_var (i := 2)) sa_nil)) (sa_cons (se_len B.len (sa_cons (se_var (i := 3)) sa_nil)) sa_nil))) sa_nil)) (sg_name (i := 5) (vs := [5]) sc_law_pick.nd) (sss_one (t_law_pick_1 B S_law_take cdv A outer s H E hr)))
theorem t_law_pick_3 {f : Addr} (B : Bt mg) (S_law_take : FS P w K mg base cl 1 "_law_take" 2 m_law_take) (cdv : Value) (A : Around) (outer : List Env) (s : Shared) (H : Hp) (E : XK) (hr : Room 1 (A.deeper (envOfC "_law_pick" (defScope s_law_pick) s.heap.objs.size f cdv))) :
    SS (cxOf CX0 P w K mg base ["_law_box_here", "_law_some_so", "_law_many_so", "_law_rest", "_law_found", "_law_turn"] "_law_pick" (defScope s_law_pick) f cdv A outer s H E).nox cl ((defBody s_law_pick).getD 2 (.Pass ⟨0, 0, 0, 0⟩)) m_law_pick_3 := by
  exact (ss_ret (se_var (i := 4)))
theorem ok_law_pick {f : Addr} {fd : FuncData} (F : Fun K "_law_pick" "_law_pick" s_law_pick f fd) (B : Bt mg) (S_law_take : FS P w K mg base cl 1 "_law_take" 2 m_law_take) : FnOk P w K mg base CX0 2 f fd ["_law_box_here", "_law_some_so", "_law_many_so"] (spM K cl 3 m_law_pick) := by
  refine def_ok (N := ["_law_box_here", "_law_some_so", "_law_many_so", "_law_rest", "_law_found", "_law_turn"]) (n := 3) F sc_law_pick rfl (fun cdv A outer s H E hr => ?_)
  exact (sss_cons (t_law_pick_0 B S_law_take cdv A outer s H E hr)
    (sss_cons (t_law_pick_2 B S_law_take cdv A outer s H E hr)
    (sss_one (t_law_pick_3 B S_law_take cdv A outer s H E hr))))
theorem fs_law_pick {f : Addr} {fd : FuncData} (F : Fun K "_law_pick" "_law_pick" s_law_pick f fd) (hm : mg "_law_pick" = some (.ref f)) (B : Bt mg) (S_law_take : FS P w K mg base cl 1 "_law_take" 2 m_law_take) : FS P w K mg base cl 2 "_law_pick" 3 m_law_pick :=
  ⟨⟨f, fd, ["_law_box_here", "_law_some_so", "_law_many_so"], ok_law_pick F B S_law_take, hm, F.kp, F.binds (ps := ["_law_box_here", "_law_some_so", "_law_many_so"]) fun _ _ _ _ _ _ us hl => match us, hl with | [_, _, _], _ => rfl, rfl⟩, fun rs μ z h => mDef_ar rs μ z h⟩
end
end NS
set_option Elab.async false
set_option linter.all false
set_option maxRecDepth 100000
set_option maxHeartbeats 4000000
namespace NS
open PySem PySem.Spec PyProof.Rows L2 DL
section
variable {P : Program} {w : World} {K : PySem.W.Frag} {mg : Str → Option Value} {base : Heap} {cl : Nat → Addr}
theorem t_law_ascending_0 {f : Addr} (B : Bt mg) (cdv : Value) (A : Around) (outer : List Env) (s : Shared) (H : Hp) (E : XK) (hr : Room 0 (A.deeper (envOfC "_law_ascending" (defScope s_law_ascending) s.heap.objs.size f cdv))) :
    SS (cxOf CX0 P w K mg base ["_law_rows", "_law_found", "_law_row", "_law_place"] "_law_ascending" (defScope s_law_ascending) f cdv A outer s H E).nox cl ((defBody s_law_ascending).getD 0 (.Pass ⟨0, 0, 0, 0⟩)) m_law_ascending_0 := by
  exact (ss_setC (i := 1) sc_law_ascending.nd (se_lst sa_nil))
theorem t_law_ascending_1 {f : Addr} (B : Bt mg) (cdv : Value) (A : Around) (outer : List Env) (s : Shared) (H : Hp) (E : XK) (hr : Room 0 (A.deeper (envOfC "_law_ascending" (defScope s_law_ascending) s.heap.objs.size f cdv))) :
    SS (cxOf CX0 P w K mg base ["_law_rows", "_law_found", "_law_row", "_law_place"] "_law_ascending" (defScope s_law_ascending) f cdv A outer s H E).nox cl ((sub1 ((defBody s_law_ascending).getD 1 (.Pass ⟨0, 0, 0, 0⟩))).getD 0 (.Pass ⟨0, 0, 0, 0⟩)) m_law_ascending_1 := by
  exact (ss_set (i := 3) sc_law_ascending.nd (se_len B.len (sa_cons (se_var (i := 1)) sa_nil)))
theorem t_law_ascending_2 {f : Addr} (B : Bt mg) (cdv : Value) (A : Around) (outer : List Env) (s : Shared) (H : Hp) (E : XK) (hr : Room 0 (A.deeper (envOfC "_law_ascending" (defScope s_law_ascending) s.heap.objs.size f cdv))) :
    SS (cxOf CX0 P w K mg base ["_law_rows", "_law_found", "_law_row", "_law_place"] "_law_ascending" (defScope s_law_ascending) f cdv A outer s H E).nox cl ((sub1 ((sub1 ((defBody s_law_ascending).getD 1 (.Pass ⟨0, 0, 0, 0⟩))).getD 1 (.Pass ⟨0, 0, 0, 0⟩))).getD 0 (.Pass ⟨0, 0, 0, 0⟩)) m_law_ascending_2 := by
  exact (ss_set (i := 3) sc_law_ascending.nd (se_sub (se_var (i := 3)) se_int))
theorem t_law_ascending_4 {f : Addr} (B : Bt mg) (cdv : Value) (A : Around) (outer : List Env) (s : Shared) (H : Hp) (E : XK) (hr : Room 0 (A.deeper (envOfC "_law_ascending" (defScope s_law_ascending) s.heap.objs.size f cdv))) :
    SS (cxOf CX0 P w K mg base ["_law_rows", "_law_found", "_law_row", "_law_place"] "_law_ascending" (defScope s_law_ascending) f cdv A outer s H E).nox cl ((sub1 ((defBody s_law_ascending).getD 1 (.Pass ⟨0, 0, 0, 0⟩))).getD 1 (.Pass ⟨0, 0, 0, 0⟩)) m_law_ascending_4 := by
  exact (ss_while (n := 1000) (st_w (sw_and (st_gt (se_var (i := 3)) se_int) (sw_and1 (st_lt hr.units0 (se_var (i := 2)) (se_ix (se_var (i := 1)) (se_sub (se_var (i := 3)) se_int)))))) (sss_one (t_law_ascending_2 B cdv A outer s H E hr)))
theorem t_law_ascending_5 {f : Addr} (B : Bt mg) (cdv : Value) (A : Around) (outer : List Env) (s : Shared) (H : Hp) (E : XK) (hr : Room 0 (A.deeper (envOfC "_law_ascending" (defScope s_law_ascending) s.heap.objs.size f cdv))) :
    SS (cxOf CX0 P w K mg base ["_law_rows", "_law_found", "_law_row", "_law_place"] "_law_ascending" (defScope s_law_ascending) f cdv A outer s H E).nox cl ((sub1 ((defBody s_law_ascending).getD 1 (.Pass ⟨0, 0, 0, 0⟩))).getD 2 (.Pass ⟨0, 0, 0, 0⟩)) m_law_ascending_5 := by
  exact (ss_expr (se_insert (se_var (i := 1)) (sa_cons (se_var (i := 3)) (sa_cons (se_var (i := 2)) sa_nil))))
theorem t_law_ascending_7 {f : Addr} (B : Bt mg) (cdv : Value) (A : Around) (outer : List Env) (s : Shared) (H : Hp) (E : XK) (hr : Room 0 (A.deeper (envOfC "_law_ascending" (defScope s_law_ascending) s.heap.objs.size f cdv))) :
    SS (cxOf CX0 P w K mg base ["_law_rows", "_law_found", "_law_row", "_law_place"] "_law_ascending" (defScope s_law_ascending) f cdv A outer s H E).nox cl ((defBody s_law_ascending).getD 1 (.Pass ⟨0, 0, 0, 0⟩)) m_law_ascending_7 := by
  exact (ss_for (si_seq (se_var (i := 0))) (sg_name (i := 2) (vs := [2]) sc_law_ascending.nd) (sss_cons (t_law_ascending_1 B cdv A outer s H E hr)
    (sss_cons (t_law_ascending_4 B cdv A outer s H E hr)
    (sss_one (t_law_ascending_5 B cdv A outer s H E hr)))))
theorem t_law_ascending_8 {f : Addr} (B : Bt mg) (cdv : Value) (A : Around) (outer : List Env) (s : Shared) (H : Hp) (E : XK) (hr : Room 0 (A.deeper (envOfC "_law_ascending" (defScope s_law_ascending) s.heap.objs.size f cdv))) :
    SS (cxOf CX0 P w K mg base ["_law_rows", "_law_found", "_law_row", "_law_place"] "_law_ascending" (defScope s_law_ascending) f cdv A outer s H E).nox cl ((defBody s_law_ascending).getD 2 (.Pass ⟨0, 0, 0, 0⟩)) m_law_ascending_8 := by
  exact (ss_ret (se_var (i := 1)))
theorem ok_law_ascending {f : Addr} {fd : FuncData} (F : Fun K "_law_ascending" "_law_ascending" s_law_ascending f fd) (B : Bt mg) : FnOk P w K mg base CX0 1 f fd ["_law_rows"] (spM K cl 1 m_law_ascending) := by
  refine def_ok (N := ["_law_rows", "_law_found", "_law_row", "_law_place"]) (n := 1) F sc_law_ascending rfl (fun cdv A outer s H E hr => ?_)
  exact (sss_cons (t_law_ascending_0 B cdv A outer s H E hr)
    (sss_cons (t_law_ascending_7 B cdv A outer s H E hr)
    (sss_one (t_law_ascending_8 B cdv A outer s H E hr))))
theorem fs_law_ascending {f : Addr} {fd : FuncData} (F : Fun K "_law_ascending" "_law_ascending" s_law_ascending f fd) (hm : mg "_law_ascending" = some (.ref f)) (B : Bt mg) : FS P w K mg base cl 1 "_law_ascending" 1 m_law_ascending :=
  ⟨⟨f, fd, ["_law_rows"], ok_law_ascending F B, hm, F.kp, F.binds (ps := ["_law_rows"]) fun _ _ _ _ _ _ us hl => match us, hl with | [_], _ => rfl, rfl⟩, fun rs μ z h => mDef_ar rs μ z h⟩
end
end NS
set_option Elab.async false
set_option linter.all false
set_option maxRecDepth 100000
set_option maxHeartbeats 4000000
namespace NS
open PySem PySem.Spec PyProof.Rows L2 DL
section
variable {P : Program} {w : World} {K : PySem.W.Frag} {mg : Str → Option Value} {base : Heap} {cl : Nat → Addr}
theorem t_law_subsets_0 {f : Addr} (B : Bt mg) (cdv : Value) (A : Around) (outer : List Env) (s : Shared) (H : Hp) (E : XK) (hr : Room 0 (A.deeper (envOfC "_law_subsets" (defScope s_law_subsets) s.heap.objs.size f cdv))) :
    SS (cxOf CX0 P w K mg base ["_law_some_so", "_law_found", "_law_own", "_law_row"] "_law_subsets" (defScope s_law_subsets) f cdv A outer s H E).nox cl ((defBody s_law_subsets).getD 0 (.Pass ⟨0, 0, 0, 0⟩)) m_law_subsets_0 := by
  exact (ss_set (i := 1) sc_law_subsets.nd (se_lst (sa_cons (se_tup sa_nil) sa_nil)))
theorem t_law_subsets_2 {f : Addr} (B : Bt mg) (cdv : Value) (A : Around) (outer : List Env) (s : Shared) (H : Hp) (E : XK) (hr : Room 0 (A.deeper (envOfC "_law_subsets" (defScope s_law_subsets) s.heap.objs.size f cdv))) :
    SS (cxOf CX0 P w K mg base ["_law_some_so", "_law_found", "_law_own", "_law_row"] "_law_subsets" (defScope s_law_subsets) f cdv A outer s H E).nox cl ((sub1 ((defBody s_law_subsets).getD 1 (.Pass ⟨0, 0, 0, 0⟩))).getD 0 (.Pass ⟨0, 0, 0, 0⟩)) m_law_subsets_2 := by
  exact (ss_set (i := 1) sc_law_subsets.nd (se_add (se_var (i := 1)) (se_lc (own := [("_law_row", 3)]) sc_law_subsets.nd (si_seq (se_var (i := 1))) (sem_name (by decide)) (fun _ _ _ _ _ => (sg_name (cl := cl) (vs := [3]) (i := 3) sc_law_subsets.nd).1) (fun _ _ _ _ _ => stt_nil) (fun _ _ _ _ _ => (se_add (se_var (i := 3)) (se_tup (sa_cons (se_var (i := 2)) sa_nil)))) (blkOk_by (by kernel_rfl)))))
theorem t_law_subsets_3 {f : Addr} (B : Bt mg) (cdv : Value) (A : Around) (outer : List Env) (s : Shared) (H : Hp) (E : XK) (hr : Room 0 (A.deeper (envOfC "_law_subsets" (defScope s_law_subsets) s.heap.objs.size f cdv))) :
    SS (cxOf CX0 P w K mg base ["_law_some_so", "_law_found", "_law_own", "_law_row"] "_law_subsets" (defScope s_law_subsets) f cdv A outer s H E).nox cl ((defBody s_law_subsets).getD 1 (.Pass ⟨0, 0, 0, 0⟩)) m_law_subsets_3 := by
  exact (ss_for (si_seq (se_var (i := 0))) (sg_name (i := 2) (vs := [2]) sc_law_subsets.nd) (sss_one (t_law_subsets_2 B cdv A outer s H E hr)))
theorem t_law_subsets_4 {f : Addr} (B : Bt mg) (cdv : Value) (A : Around) (outer : List Env) (s : Shared) (H : Hp) (E : XK) (hr : Room 0 (A.deeper (envOfC "_law_subsets" (defScope s_law_subsets) s.heap.objs.size f cdv))) :
    SS (cxOf CX0 P w K mg base ["_law_some_so", "_law_found", "_law_own", "_law_row"] "_law_subsets" (defScope s_law_subsets) f cdv A outer s H E).nox cl ((defBody s_law_subsets).getD 2 (.Pass ⟨0, 0, 0, 0⟩)) m_law_subsets_4 := by
  exact (ss_ret (se_var (i := 1)))
theorem ok_law_subsets {f : Addr} {fd : FuncData} (F : Fun K "_law_subsets" "_law_subsets" s_law_subsets f fd) (B : Bt mg) : FnOk P w K mg base CX0 1 f fd ["_law_some_so"] (spM K cl 1 m_law_subsets) := by
  refine def_ok (N := ["_law_some_so", "_law_found", "_law_own", "_law_row"]) (n := 1) F sc_law_subsets rfl (fun cdv A outer s H E hr => ?_)
  exact (sss_cons (t_law_subsets_0 B cdv A outer s H E hr)
    (sss_cons (t_law_subsets_3 B cdv A outer s H E hr)
    (sss_one (t_law_subsets_4 B cdv A outer s H E hr))))
theorem fs_law_subsets {f : Addr} {fd : FuncData} (F : Fun K "_law_subsets" "_law_subsets" s_law_subsets f fd) (hm : mg "_law_subsets" = some (.ref f)) (B : Bt mg) : FS P w K mg base cl 1 "_law_subsets" 1 m_law_subsets :=
  ⟨⟨f, fd, ["_law_some_so"], ok_law_subsets F B, hm, F.kp, F.binds (ps := ["_law_some_so"]) fun _ _ _ _ _ _ us hl => match us, hl with | [_], _ => rfl, rfl⟩, fun rs μ z h => mDef_ar rs μ z h⟩
end
end NS
set_option Elab.async false
set_option linter.all false
set_option maxRecDepth 100000
set_option maxHeartbeats 4000000
namespace NS
open PySem PySem.Spec PyProof.Rows L2 DL
section
variable {P : Program} {w : World} {K : PySem.W.Frag} {mg : Str → Option Value} {base : Heap} {cl : Nat → Addr}
theorem t_law_missed_2 {f : Addr} (B : Bt mg) (cdv : Value) (A : Around) (outer : List Env) (s : Shared) (H : Hp) (E : XK) (hr : Room 0 (A.deeper (envOfC "_law_missed" (defScope s_law_missed) s.heap.objs.size f cdv))) :
    SS (cxOf CX0 P w K mg base ["_law_wide", "_law_row_so", "_law_far", "_law_x", "_law_k"] "_law_missed" (defScope s_law_missed) f cdv A outer s H E).nox cl ((sub1 ((sub1 ((sub1 ((defBody s_law_missed).getD 0 (.Pass ⟨0, 0, 0, 0⟩))).getD 0 (.Pass ⟨0, 0, 0, 0⟩))).getD 0 (.Pass ⟨0, 0, 0, 0⟩))).getD 0 (.Pass ⟨0, 0, 0, 0⟩)) m_law_missed_2 := by
  exact (ss_ret (se_tup (sa_cons (se_var (i := 3)) (sa_cons (se_add (se_var (i := 3)) (se_var (i := 2))) sa_nil))))
theorem t_law_missed_3 {f : Addr} (B : Bt mg) (cdv : Value) (A : Around) (outer : List Env) (s : Shared) (H : Hp) (E : XK) (hr : Room 0 (A.deeper (envOfC "_law_missed" (defScope s_law_missed) s.heap.objs.size f cdv))) :
    SS (cxOf CX0 P w K mg base ["_law_wide", "_law_row_so", "_law_far", "_law_x", "_law_k"] "_law_missed" (defScope s_law_missed) f cdv A outer s H E).nox cl ((sub1 ((sub1 ((defBody s_law_missed).getD 0 (.Pass ⟨0, 0, 0, 0⟩))).getD 0 (.Pass ⟨0, 0, 0, 0⟩))).getD 0 (.Pass ⟨0, 0, 0, 0⟩)) m_law_missed_3 := by
  exact (ss_if (st_eq hr.units (se_lc (own := [("_law_k", 4)]) sc_law_missed.nd (si_seq (se_var (i := 1))) (sem_name (by decide)) (fun _ _ _ _ _ => (sg_name (cl := cl) (vs := [4]) (i := 4) sc_law_missed.nd).1) (fun _ _ _ _ _ => (stt_one (st_eq hr.units (se_div (se_sub (se_var (i := 3)) (se_var (i := 4))) (se_var (i := 0))) (se_div (se_sub (se_add (se_var (i := 3)) (se_var (i := 2))) (se_var (i := 4))) (se_var (i := 0)))))) (fun _ _ _ _ _ => (se_var (i := 4))) (blkOk_by (by kernel_rfl))) (se_lst sa_nil)) (sss_one (t_law_missed_2 B cdv A outer s H E hr)) sss_nil)
theorem t_law_missed_4 {f : Addr} (B : Bt mg) (cdv : Value) (A : Around) (outer : List Env) (s : Shared) (H : Hp) (E : XK) (hr : Room 0 (A.deeper (envOfC "_law_missed" (defScope s_law_missed) s.heap.objs.size f cdv))) :
    SS (cxOf CX0 P w K mg base ["_law_wide", "_law_row_so", "_law_far", "_law_x", "_law_k"] "_law_missed" (defScope s_law_missed) f cdv A outer s H E).nox cl ((sub1 ((defBody s_law_missed).getD 0 (.Pass ⟨0, 0, 0, 0⟩))).getD 0 (.Pass ⟨0, 0, 0, 0⟩)) m_law_missed_4 := by
  exact (ss_for (si_range1 B.range (sa_cons (se_var (i := 0)) sa_nil)) (sg_name (i := 3) (vs := [3]) sc_law_missed.nd) (sss_one (t_law_missed_3 B cdv A outer s H E hr)))
theorem t_law_missed_5 {f : Addr} (B : Bt mg) (cdv : Value) (A : Around) (outer : List Env) (s : Shared) (H : Hp) (E : XK) (hr : Room 0 (A.deeper (envOfC "_law_missed" (defScope s_law_missed) s.heap.objs.size f cdv))) :
    SS (cxOf CX0 P w K mg base ["_law_wide", "_law_row_so", "_law_far", "_law_x", "_law_k"] "_law_missed" (defScope s_law_missed) f cdv A outer s H E).nox cl ((defBody s_law_missed).getD 0 (.Pass ⟨0, 0, 0, 0⟩)) m_law_missed_5 := by
  exact (ss_for (si_range2 B.range (sa_cons se_int (sa_cons (se_add (se_var (i := 0)) se_int) sa_nil))) (sg_name (i := 2) (vs := [2]) sc_law_missed.nd) (sss_one (t_law_missed_4 B cdv A outer s H E hr)))
theorem t_law_missed_6 {f : Addr} (B : Bt mg) (cdv : Value) (A : Around) (outer : List Env) (s : Shared) (H : Hp) (E : XK) (hr : Room 0 (A.deeper (envOfC "_law_missed" (defScope s_law_missed) s.heap.objs.size f cdv))) :
    SS (cxOf CX0 P w K mg base ["_law_wide", "_law_row_so", "_law_far", "_law_x", "_law_k"] "_law_missed" (defScope s_law_missed) f cdv A outer s H E).nox cl ((defBody s_law_missed).getD 1 (.Pass ⟨0, 0, 0, 0⟩)) m_law_missed_6 := by
  exact (ss_ret se_non)
theorem ok_law_missed {f : Addr} {fd : FuncData} (F : Fun K "_law_missed" "_law_missed" s_law_missed f fd) (B : Bt mg) : FnOk P w K mg base CX0 1 f fd ["_law_wide", "_law_row_so"] (spM K cl 2 m_law_missed) := by
  refine def_ok (N := ["_law_wide", "_law_row_so", "_law_far", "_law_x", "_law_k"]) (n := 2) F sc_law_missed rfl (fun cdv A outer s H E hr => ?_)
  exact (sss_cons (t_law_missed_5 B cdv A outer s H E hr)
    (sss_one (t_law_missed_6 B cdv A outer s H E hr)))
theorem fs_law_missed {f : Addr} {fd : FuncData} (F : Fun K "_law_missed" "_law_missed" s_law_missed f fd) (hm : mg "_law_missed" = some (.ref f)) (B : Bt mg) : FS P w K mg base cl 1 "_law_missed" 2 m_law_missed :=
  ⟨⟨f, fd, ["_law_wide", "_law_row_so"], ok_law_missed F B, hm, F.kp, F.binds (ps := ["_law_wide", "_law_row_so"]) fun _ _ _ _ _ _ us hl => match us, hl with | [_, _], _ => rfl, rfl⟩, fun rs μ z h => mDef_ar rs μ z h⟩
end
end NS
set_option Elab.async false
set_option linter.all false
set_option maxRecDepth 100000
set_option maxHeartbeats 4000000
namespace NS
open PySem PySem.Spec PyProof.Rows L2 DL
section
variable {P : Program} {w : World} {K : PySem.W.Frag} {mg : Str → Option Value} {base : Heap} {cl : Nat → Addr}
theorem t_law_best_0 {f : Addr} (B : Bt mg) (S_law_subsets : FS P w K mg base cl 1 "_law_subsets" 1 m_law_subsets) (S_law_missed : FS P w K mg base cl 1 "_law_missed" 2 m_law_missed) (cdv : Value) (A : Around) (outer : List Env) (s : Shared) (H : Hp) (E : XK) (hr : Room 1 (A.deeper (envOfC "_law_best" (defScope s_law_best) s.heap.objs.size f cdv))) :
    SS (cxOf CX0 P w K mg base ["_law_wide", "_law_size", "_law_best_here", "_law_row_so", "_law_one_so", "_law_other_so"] "_law_best" (defScope s_law_best) f cdv A outer s H E).nox cl ((defBody s_law_best).getD 0 (.Pass ⟨0, 0, 0, 0⟩)) m_law_best_0 := by
  exact (ss_set (i := 2) sc_law_best.nd se_int)
theorem t_law_best_1 {f : Addr} (B : Bt mg) (S_law_subsets : FS P w K mg base cl 1 "_law_subsets" 1 m_law_subsets) (S_law_missed : FS P w K mg base cl 1 "_law_missed" 2 m_law_missed) (cdv : Value) (A : Around) (outer : List Env) (s : Shared) (H : Hp) (E : XK) (hr : Room 1 (A.deeper (envOfC "_law_best" (defScope s_law_best) s.heap.objs.size f cdv))) :
    SS (cxOf CX0 P w K mg base ["_law_wide", "_law_size", "_law_best_here", "_law_row_so", "_law_one_so", "_law_other_so"] "_law_best" (defScope s_law_best) f cdv A outer s H E).nox cl ((sub1 ((sub1 ((defBody s_law_best).getD 1 (.Pass ⟨0, 0, 0, 0⟩))).getD 0 (.Pass ⟨0, 0, 0, 0⟩))).getD 0 (.Pass ⟨0, 0, 0, 0⟩)) m_law_best_1 := by
  exact (ss_asg (se_call S_law_missed.x hr (by decide) (sa_cons (se_var (i := 0)) (sa_cons (se_add (se_tup (sa_cons se_int sa_nil)) (se_var (i := 3))) sa_nil))) (sg_pair (i := 4) (j := 5) (vs := [4, 5]) sc_law_best.nd))
theorem t_law_best_2 {f : Addr} (B : Bt mg) (S_law_subsets : FS P w K mg base cl 1 "_law_subsets" 1 m_law_subsets) (S_law_missed : FS P w K mg base cl 1 "_law_missed" 2 m_law_missed) (cdv : Value) (A : Around) (outer : List Env) (s : Shared) (H : Hp) (E : XK) (hr : Room 1 (A.deeper (envOfC "_law_best" (defScope s_law_best) s.heap.objs.size f cdv))) :
    SS (cxOf CX0 P w K mg base ["_law_wide", "_law_size", "_law_best_here", "_law_row_so", "_law_one_so", "_law_other_so"] "_law_best" (defScope s_law_best) f cdv A outer s H E).nox cl ((sub1 ((sub1 ((defBody s_law_best).getD 1 (.Pass ⟨0, 0, 0, 0⟩))).getD 0 (.Pass ⟨0, 0, 0, 0⟩))).getD 1 (.Pass ⟨0, 0, 0, 0⟩)) m_law_best_2 := by
  exact (ss_set (i := 2) sc_law_best.nd (se_max B.max (sa_cons (se_int1 B.int (sa_cons (se_var (i := 2)) sa_nil)) (sa_cons (se_int1 B.int (sa_cons (se_sub (se_sub (se_var (i := 5)) (se_var (i := 4))) se_int) sa_nil)) sa_nil))))
theorem t_law_best_3 {f : Addr} (B : Bt mg) (S_law_subsets : FS P w K mg base cl 1 "_law_subsets" 1 m_law_subsets) (S_law_missed : FS P w K mg base cl 1 "_law_missed" 2 m_law_missed) (cdv : Value) (A : Around) (outer : List Env) (s : Shared) (H : Hp) (E : XK) (hr : Room 1 (A.deeper (envOfC "_law_best" (defScope s_law_best) s.heap.objs.size f cdv))) :
    SS (cxOf CX0 P w K mg base ["_law_wide", "_law_size", "_law_best_here", "_law_row_so", "_law_one_so", "_law_other_so"] "_law_best" (defScope s_law_best) f cdv A outer s H E).nox cl ((sub1 ((defBody s_law_best).getD 1 (.Pass ⟨0, 0, 0, 0⟩))).getD 0 (.Pass ⟨0, 0, 0, 0⟩)) m_law_best_3 := by
  exact (ss_if (st_eq hr.units (se_len B.len (sa_cons (se_var (i := 3)) sa_nil)) (se_sub (se_var (i := 1)) se_int)) (sss_cons (t_law_best_1 B S_law_subsets S_law_missed cdv A outer s H E hr)
    (sss_one (t_law_best_2 B S_law_subsets S_law_missed cdv A outer s H E hr))) sss_nil)
theorem t_law_best_4 {f : Addr} (B : Bt mg) (S_law_subsets : FS P w K mg base cl 1 "_law_subsets" 1 m_law_subsets) (S_law_missed : FS P w K mg base cl 1 "_law_missed" 2 m_law_missed) (cdv : Value) (A : Around) (outer : List Env) (s : Shared) (H : Hp) (E : XK) (hr : Room 1 (A.deeper (envOfC "_law_best" (defScope s_law_best) s.heap.objs.size f cdv))) :
    SS (cxOf CX0 P w K mg base ["_law_wide", "_law_size", "_law_best_here", "_law_row_so", "_law_one_so", "_law_other_so"] "_law_best" (defScope s_law_best) f cdv A outer s H E).nox cl ((defBody s_law_best).getD 1 (.Pass ⟨0, 0, 0, 0⟩)) m_law_best_4 := by
  exact (ss_for (si_seq (se_call S_law_subsets.x hr (by decide) (sa_cons (se_rg2 B.list B.range se_int (se_var (i := 0))) sa_nil))) (sg_name (i := 3) (vs := [3]) sc_law_best.nd) (sss_one (t_law_best_3 B S_law_subsets S_law_missed cdv A outer s H E hr)))
theorem t_law_best_5 {f : Addr} (B : Bt mg) (S_law_subsets : FS P w K mg base cl 1 "_law_subsets" 1 m_law_subsets) (S_law_missed : FS P w K mg base cl 1 "_law_missed" 2 m_law_missed) (cdv : Value) (A : Around) (outer : List Env) (s : Shared) (H : Hp) (E : XK) (hr : Room 1 (A.deeper (envOfC "_law_best" (defScope s_law_best) s.heap.objs.size f cdv))) :
    SS (cxOf CX0 P w K mg base ["_law_wide", "_law_size", "_law_best_here", "_law_row_so", "_law_one_so", "_law_other_so"] "_law_best" (defScope s_law_best) f cdv A outer s H E).nox cl ((defBody s_law_best).getD 2 (.Pass ⟨0, 0, 0, 0⟩)) m_law_best_5 := by
  exact (ss_ret (se_var (i := 2)))
theorem ok_law_best {f : Addr} {fd : FuncData} (F : Fun K "_law_best" "_law_best" s_law_best f fd) (B : Bt mg) (S_law_subsets : FS P w K mg base cl 1 "_law_subsets" 1 m_law_subsets) (S_law_missed : FS P w K mg base cl 1 "_law_missed" 2 m_law_missed) : FnOk P w K mg base CX0 2 f fd ["_law_wide", "_law_size"] (spM K cl 2 m_law_best) := by
  refine def_ok (N := ["_law_wide", "_law_size", "_law_best_here", "_law_row_so", "_law_one_so", "_law_other_so"]) (n := 2) F sc_law_best rfl (fun cdv A outer s H E hr => ?_)
  exact (sss_cons (t_law_best_0 B S_law_subsets S_law_missed cdv A outer s H E hr)
    (sss_cons (t_law_best_4 B S_law_subsets S_law_missed cdv A outer s H E hr)
    (sss_one (t_law_best_5 B S_law_subsets S_law_missed cdv A outer s H E hr))))
theorem fs_law_best {f : Addr} {fd : FuncData} (F : Fun K "_law_best" "_law_best" s_law_best f fd) (hm : mg "_law_best" = some (.ref f)) (B : Bt mg) (S_law_subsets : FS P w K mg base cl 1 "_law_subsets" 1 m_law_subsets) (S_law_missed : FS P w K mg base cl 1 "_law_missed" 2 m_law_missed) : FS P w K mg base cl 2 "_law_best" 2 m_law_best :=
  ⟨⟨f, fd, ["_law_wide", "_law_size"], ok_law_best F B S_law_subsets S_law_missed, hm, F.kp, F.binds (ps := ["_law_wide", "_law_size"]) fun _ _ _ _ _ _ us hl => match us, hl with | [_, _], _ => rfl, rfl⟩, fun rs μ z h => mDef_ar rs μ z h⟩
end
end NS
set_option Elab.async false
set_option linter.all false
set_option maxRecDepth 100000
set_option maxHeartbeats 4000000
namespace NS
open PySem PySem.Spec PyProof.Rows L2 DL
section
variable {P : Program} {w : World} {K : PySem.W.Frag} {mg : Str → Option Value} {base : Heap} {cl : Nat → Addr}
theorem t_law_hand_right_0 {f : Addr} (B : Bt mg) (S_reach_of : FS P w K mg base cl 6 "reach_of" 2 m_reach_of) (S_missed_by : FS P w K mg base cl 7 "missed_by" 2 m_missed_by) (S_best_reach : FS P w K mg base cl 1 "best_reach" 2 m_best_reach) (S_law_same : FS P w K mg base cl 6 "_law_same" 2 (m_law_same 5)) (cdv : Value) (A : Around) (outer : List Env) (s : Shared) (H : Hp) (E : XK) (hr : Room 7 (A.deeper (envOfC "_law_hand_right" (defScope s_law_hand_right) s.heap.objs.size f cdv))) :
    SS (cxOf CX0 P w K mg base ["_law_got", "_law_due"] "_law_hand_right" (defScope s_law_hand_right) f cdv A outer s H E).nox cl ((defBody s_law_hand_right).getD 0 (.Pass ⟨0, 0, 0, 0⟩)) m_law_hand_right_0 := by
  exact (ss_set (i := 0) sc_law_hand_right.nd (se_lst (sa_cons (se_call S_reach_of.x hr (by decide) (sa_cons se_int (sa_cons (se_tup (sa_cons se_int (sa_cons se_int (sa_cons se_int sa_nil)))) sa_nil))) (sa_cons (se_call S_missed_by.x hr (by decide) (sa_cons se_int (sa_cons (se_tup (sa_cons se_int (sa_cons se_int (sa_cons se_int sa_nil)))) sa_nil))) (sa_cons (se_call S_best_reach.x hr (by decide) (sa_cons se_int (sa_cons se_int sa_nil))) (sa_cons (se_call S_best_reach.x hr (by decide) (sa_cons se_int (sa_cons se_int sa_nil))) (sa_cons (se_call S_best_reach.x hr (by decide) (sa_cons se_int (sa_cons se_int sa_nil))) sa_nil)))))))
theorem t_law_hand_right_1 {f : Addr} (B : Bt mg) (S_reach_of : FS P w K mg base cl 6 "reach_of" 2 m_reach_of) (S_missed_by : FS P w K mg base cl 7 "missed_by" 2 m_missed_by) (S_best_reach : FS P w K mg base cl 1 "best_reach" 2 m_best_reach) (S_law_same : FS P w K mg base cl 6 "_law_same" 2 (m_law_same 5)) (cdv : Value) (A : Around) (outer : List Env) (s : Shared) (H : Hp) (E : XK) (hr : Room 7 (A.deeper (envOfC "_law_hand_right" (defScope s_law_hand_right) s.heap.objs.size f cdv))) :
    SS (cxOf CX0 P w K mg base ["_law_got", "_law_due"] "_law_hand_right" (defScope s_law_hand_right) f cdv A outer s H E).nox cl ((defBody s_law_hand_right).getD 1 (.Pass ⟨0, 0, 0, 0⟩)) m_law_hand_right_1 := by
  exact (ss_set (i := 1) sc_law_hand_right.nd (se_lst (sa_cons se_int (sa_cons (se_tup (sa_cons se_int (sa_cons se_int sa_nil))) (sa_cons se_int (sa_cons se_int (sa_cons se_int sa_nil)))))))
theorem t_law_hand_right_2 {f : Addr} (B : Bt mg) (S_reach_of : FS P w K mg base cl 6 "reach_of" 2 m_reach_of) (S_missed_by : FS P w K mg base cl 7 "missed_by" 2 m_missed_by) (S_best_reach : FS P w K mg base cl 1 "best_reach" 2 m_best_reach) (S_law_same : FS P w K mg base cl 6 "_law_same" 2 (m_law_same 5)) (cdv : Value) (A : Around) (outer : List Env) (s : Shared) (H : Hp) (E : XK) (hr : Room 7 (A.deeper (envOfC "_law_hand_right" (defScope s_law_hand_right) s.heap.objs.size f cdv))) :
    SS (cxOf CX0 P w K mg base ["_law_got", "_law_due"] "_law_hand_right" (defScope s_law_hand_right) f cdv A outer s H E).nox cl ((defBody s_law_hand_right).getD 2 (.Pass ⟨0, 0, 0, 0⟩)) m_law_hand_right_2 := by
  exact (ss_set (i := 0) sc_law_hand_right.nd (se_add (se_var (i := 0)) (se_lst (sa_cons (se_call S_reach_of.x hr (by decide) (sa_cons se_int (sa_cons (se_tup (sa_cons se_int sa_nil)) sa_nil))) (sa_cons (se_call S_missed_by.x hr (by decide) (sa_cons se_int (sa_cons (se_tup (sa_cons se_int sa_nil)) sa_nil))) (sa_cons (se_call S_reach_of.x hr (by decide) (sa_cons se_int (sa_cons (se_tup (sa_cons se_int sa_nil)) sa_nil))) (sa_cons (se_call S_missed_by.x hr (by decide) (sa_cons se_int (sa_cons (se_tup (sa_cons se_int sa_nil)) sa_nil))) (sa_cons (se_call S_reach_of.x hr (by decide) (sa_cons se_int (sa_cons (se_tup (sa_cons se_int (sa_cons se_int sa_nil))) sa_nil))) sa_nil))))))))
theorem t_law_hand_right_3 {f : Addr} (B : Bt mg) (S_reach_of : FS P w K mg base cl 6 "reach_of" 2 m_reach_of) (S_missed_by : FS P w K mg base cl 7 "missed_by" 2 m_missed_by) (S_best_reach : FS P w K mg base cl 1 "best_reach" 2 m_best_reach) (S_law_same : FS P w K mg base cl 6 "_law_same" 2 (m_law_same 5)) (cdv : Value) (A : Around) (outer : List Env) (s : Shared) (H : Hp) (E : XK) (hr : Room 7 (A.deeper (envOfC "_law_hand_right" (defScope s_law_hand_right) s.heap.objs.size f cdv))) :
    SS (cxOf CX0 P w K mg base ["_law_got", "_law_due"] "_law_hand_right" (defScope s_law_hand_right) f cdv A outer s H E).nox cl ((defBody s_law_hand_right).getD 3 (.Pass ⟨0, 0, 0, 0⟩)) m_law_hand_right_3 := by
  exact (ss_set (i := 1) sc_law_hand_right.nd (se_add (se_var (i := 1)) (se_lst (sa_cons se_int (sa_cons (se_tup (sa_cons se_int (sa_cons se_int sa_nil))) (sa_cons se_int (sa_cons (se_tup (sa_cons se_int (sa_cons se_int sa_nil))) (sa_cons se_int sa_nil))))))))
theorem t_law_hand_right_4 {f : Addr} (B : Bt mg) (S_reach_of : FS P w K mg base cl 6 "reach_of" 2 m_reach_of) (S_missed_by : FS P w K mg base cl 7 "missed_by" 2 m_missed_by) (S_best_reach : FS P w K mg base cl 1 "best_reach" 2 m_best_reach) (S_law_same : FS P w K mg base cl 6 "_law_same" 2 (m_law_same 5)) (cdv : Value) (A : Around) (outer : List Env) (s : Shared) (H : Hp) (E : XK) (hr : Room 7 (A.deeper (envOfC "_law_hand_right" (defScope s_law_hand_right) s.heap.objs.size f cdv))) :
    SS (cxOf CX0 P w K mg base ["_law_got", "_law_due"] "_law_hand_right" (defScope s_law_hand_right) f cdv A outer s H E).nox cl ((defBody s_law_hand_right).getD 4 (.Pass ⟨0, 0, 0, 0⟩)) m_law_hand_right_4 := by
  exact (ss_set (i := 0) sc_law_hand_right.nd (se_add (se_var (i := 0)) (se_lst (sa_cons (se_call S_missed_by.x hr (by decide) (sa_cons se_int (sa_cons (se_tup (sa_cons se_int (sa_cons se_int sa_nil))) sa_nil))) (sa_cons (se_call S_reach_of.x hr (by decide) (sa_cons se_int (sa_cons (se_tup (sa_cons se_int (sa_cons se_int sa_nil))) sa_nil))) (sa_cons (se_call S_missed_by.x hr (by decide) (sa_cons se_int (sa_cons (se_tup (sa_cons se_int (sa_cons se_int sa_nil))) sa_nil))) (sa_cons (se_call S_best_reach.x hr (by decide) (sa_cons se_int (sa_cons se_int sa_nil))) sa_nil)))))))
theorem t_law_hand_right_5 {f : Addr} (B : Bt mg) (S_reach_of : FS P w K mg base cl 6 "reach_of" 2 m_reach_of) (S_missed_by : FS P w K mg base cl 7 "missed_by" 2 m_missed_by) (S_best_reach : FS P w K mg base cl 1 "best_reach" 2 m_best_reach) (S_law_same : FS P w K mg base cl 6 "_law_same" 2 (m_law_same 5)) (cdv : Value) (A : Around) (outer : List Env) (s : Shared) (H : Hp) (E : XK) (hr : Room 7 (A.deeper (envOfC "_law_hand_right" (defScope s_law_hand_right) s.heap.objs.size f cdv))) :
    SS (cxOf CX0 P w K mg base ["_law_got", "_law_due"] "_law_hand_right" (defScope s_law_hand_right) f cdv A outer s H E).nox cl ((defBody s_law_hand_right).getD 5 (.Pass ⟨0, 0, 0, 0⟩)) m_law_hand_right_5 := by
  exact (ss_ret (se_call S_law_same.x hr (by decide) (sa_cons (se_add (se_var (i := 0)) (se_lst (sa_cons (se_call S_best_reach.x hr (by decide) (sa_cons se_int (sa_cons se_int sa_nil))) sa_nil))) (sa_cons (se_add (se_var (i := 1)) (se_lst (sa_cons (se_tup (sa_cons se_int (sa_cons se_int sa_nil))) (sa_cons se_int (sa_cons (se_tup (sa_cons se_int (sa_cons se_int sa_nil))) (sa_cons se_int (sa_cons se_int sa_nil))))))) sa_nil))))
theorem ok_law_hand_right {f : Addr} {fd : FuncData} (F : Fun K "_law_hand_right" "_law_hand_right" s_law_hand_right f fd) (B : Bt mg) (S_reach_of : FS P w K mg base cl 6 "reach_of" 2 m_reach_of) (S_missed_by : FS P w K mg base cl 7 "missed_by" 2 m_missed_by) (S_best_reach : FS P w K mg base cl 1 "best_reach" 2 m_best_reach) (S_law_same : FS P w K mg base cl 6 "_law_same" 2 (m_law_same 5)) : FnOk P w K mg base CX0 8 f fd [] (spM K cl 0 m_law_hand_right) := by
  refine def_ok (N := ["_law_got", "_law_due"]) (n := 0) F sc_law_hand_right rfl (fun cdv A outer s H E hr => ?_)
  exact (sss_cons (t_law_hand_right_0 B S_reach_of S_missed_by S_best_reach S_law_same cdv A outer s H E hr)
    (sss_cons (t_law_hand_right_1 B S_reach_of S_missed_by S_best_reach S_law_same cdv A outer s H E hr)
    (sss_cons (t_law_hand_right_2 B S_reach_of S_missed_by S_best_reach S_law_same cdv A outer s H E hr)
    (sss_cons (t_law_hand_right_3 B S_reach_of S_missed_by S_best_reach S_law_same cdv A outer s H E hr)
    (sss_cons (t_law_hand_right_4 B S_reach_of S_missed_by S_best_reach S_law_same cdv A outer s H E hr)
    (sss_one (t_law_hand_right_5 B S_reach_of S_missed_by S_best_reach S_law_same cdv A outer s H E hr)))))))
theorem fs_law_hand_right {f : Addr} {fd : FuncData} (F : Fun K "_law_hand_right" "_law_hand_right" s_law_hand_right f fd) (hm : mg "_law_hand_right" = some (.ref f)) (B : Bt mg) (S_reach_of : FS P w K mg base cl 6 "reach_of" 2 m_reach_of) (S_missed_by : FS P w K mg base cl 7 "missed_by" 2 m_missed_by) (S_best_reach : FS P w K mg base cl 1 "best_reach" 2 m_best_reach) (S_law_same : FS P w K mg base cl 6 "_law_same" 2 (m_law_same 5)) : FS P w K mg base cl 8 "_law_hand_right" 0 m_law_hand_right :=
  ⟨⟨f, fd, [], ok_law_hand_right F B S_reach_of S_missed_by S_best_reach S_law_same, hm, F.kp, F.binds (ps := []) fun _ _ _ _ _ _ us hl => match us, hl with | [], _ => rfl, rfl⟩, fun rs μ z h => mDef_ar rs μ z h⟩
end
end NS
set_option Elab.async false
set_option linter.all false
set_option maxRecDepth 100000
set_option maxHeartbeats 4000000
namespace NS
open PySem PySem.Spec PyProof.Rows L2 DL
section
variable {P : Program} {w : World} {K : PySem.W.Frag} {mg : Str → Option Value} {base : Heap} {cl : Nat → Addr}
theorem t_law_right_0 {f : Addr} (B : Bt mg) (S_reach_of : FS P w K mg base cl 6 "reach_of" 2 m_reach_of) (S_missed_by : FS P w K mg base cl 7 "missed_by" 2 m_missed_by) (S_best_reach : FS P w K mg base cl 1 "best_reach" 2 m_best_reach) (S_law_take : FS P w K mg base cl 1 "_law_take" 2 m_law_take) (S_law_of : FS P w K mg base cl 2 "_law_of" 2 m_law_of) (S_law_same : FS P w K mg base cl 6 "_law_same" 2 (m_law_same 5)) (S_law_pick : FS P w K mg base cl 2 "_law_pick" 3 m_law_pick) (S_law_ascending : FS P w K mg base cl 1 "_law_ascending" 1 m_law_ascending) (S_law_missed : FS P w K mg base cl 1 "_law_missed" 2 m_law_missed) (S_law_best : FS P w K mg base cl 2 "_law_best" 2 m_law_best) (S_law_hand_right : FS P w K mg base cl 8 "_law_hand_right" 0 m_law_hand_right) (K_best_reach_0 : FK P w K mg base cl 1 "best_reach" 2 m_best_reach 0 ["many", "width"] [1, 0]) (K_missed_by_0 : FK P w K mg base cl 7 "missed_by" 2 m_missed_by 0 ["starts", "width"] [1, 0]) (K_reach_of_0 : FK P w K mg base cl 6 "reach_of" 2 m_reach_of 0 ["starts", "width"] [1, 0]) (cdv : Value) (A : Around) (outer : List Env) (s : Shared) (H : Hp) (E : XK) (hr : Room 8 (A.deeper (envOfC "_law_right" (defScope s_law_right) s.heap.objs.size f cdv))) :
    SS (cxOf CX0 P w K mg base ["_law_box_here", "_law_turn", "_law_wide", "_law_row_so", "_law_due", "_law_got", "_law_size"] "_law_right" (defScope s_law_right) f cdv A outer s H E).nox cl ((sub1 ((defBody s_law_right).getD 0 (.Pass ⟨0, 0, 0, 0⟩))).getD 0 (.Pass ⟨0, 0, 0, 0⟩)) m_law_right_0 := by
  exact (ss_ret se_bl)
theorem t_law_right_1 {f : Addr} (B : Bt mg) (S_reach_of : FS P w K mg base cl 6 "reach_of" 2 m_reach_of) (S_missed_by : FS P w K mg base cl 7 "missed_by" 2 m_missed_by) (S_best_reach : FS P w K mg base cl 1 "best_reach" 2 m_best_reach) (S_law_take : FS P w K mg base cl 1 "_law_take" 2 m_law_take) (S_law_of : FS P w K mg base cl 2 "_law_of" 2 m_law_of) (S_law_same : FS P w K mg base cl 6 "_law_same" 2 (m_law_same 5)) (S_law_pick : FS P w K mg base cl 2 "_law_pick" 3 m_law_pick) (S_law_ascending : FS P w K mg base cl 1 "_law_ascending" 1 m_law_ascending) (S_law_missed : FS P w K mg base cl 1 "_law_missed" 2 m_law_missed) (S_law_best : FS P w K mg base cl 2 "_law_best" 2 m_law_best) (S_law_hand_right : FS P w K mg base cl 8 "_law_hand_right" 0 m_law_hand_right) (K_best_reach_0 : FK P w K mg base cl 1 "best_reach" 2 m_best_reach 0 ["many", "width"] [1, 0]) (K_missed_by_0 : FK P w K mg base cl 7 "missed_by" 2 m_missed_by 0 ["starts", "width"] [1, 0]) (K_reach_of_0 : FK P w K mg base cl 6 "reach_of" 2 m_reach_of 0 ["starts", "width"] [1, 0]) (cdv : Value) (A : Around) (outer : List Env) (s : Shared) (H : Hp) (E : XK) (hr : Room 8 (A.deeper (envOfC "_law_right" (defScope s_law_right) s.heap.objs.size f cdv))) :
    SS (cxOf CX0 P w K mg base ["_law_box_here", "_law_turn", "_law_wide", "_law_row_so", "_law_due", "_law_got", "_law_size"] "_law_right" (defScope s_law_right) f cdv A outer s H E).nox cl ((defBody s_law_right).getD 0 (.Pass ⟨0, 0, 0, 0⟩)) m_law_right_1 := by
  exact (ss_if (st_not (st_val (se_call0 S_law_hand_right.x hr (by decide)))) (sss_one (t_law_right_0 B S_reach_of S_missed_by S_best_reach S_law_take S_law_of S_law_same S_law_pick S_law_ascending S_law_missed S_law_best S_law_hand_right K_best_reach_0 K_missed_by_0 K_reach_of_0 cdv A outer s H E hr)) sss_nil)
theorem t_law_right_2 {f : Addr} (B : Bt mg) (S_reach_of : FS P w K mg base cl 6 "reach_of" 2 m_reach_of) (S_missed_by : FS P w K mg base cl 7 "missed_by" 2 m_missed_by) (S_best_reach : FS P w K mg base cl 1 "best_reach" 2 m_best_reach) (S_law_take : FS P w K mg base cl 1 "_law_take" 2 m_law_take) (S_law_of : FS P w K mg base cl 2 "_law_of" 2 m_law_of) (S_law_same : FS P w K mg base cl 6 "_law_same" 2 (m_law_same 5)) (S_law_pick : FS P w K mg base cl 2 "_law_pick" 3 m_law_pick) (S_law_ascending : FS P w K mg base cl 1 "_law_ascending" 1 m_law_ascending) (S_law_missed : FS P w K mg base cl 1 "_law_missed" 2 m_law_missed) (S_law_best : FS P w K mg base cl 2 "_law_best" 2 m_law_best) (S_law_hand_right : FS P w K mg base cl 8 "_law_hand_right" 0 m_law_hand_right) (K_best_reach_0 : FK P w K mg base cl 1 "best_reach" 2 m_best_reach 0 ["many", "width"] [1, 0]) (K_missed_by_0 : FK P w K mg base cl 7 "missed_by" 2 m_missed_by 0 ["starts", "width"] [1, 0]) (K_reach_of_0 : FK P w K mg base cl 6 "reach_of" 2 m_reach_of 0 ["starts", "width"] [1, 0]) (cdv : Value) (A : Around) (outer : List Env) (s : Shared) (H : Hp) (E : XK) (hr : Room 8 (A.deeper (envOfC "_law_right" (defScope s_law_right) s.heap.objs.size f cdv))) :
    SS (cxOf CX0 P w K mg base ["_law_box_here", "_law_turn", "_law_wide", "_law_row_so", "_law_due", "_law_got", "_law_size"] "_law_right" (defScope s_law_right) f cdv A outer s H E).nox cl ((sub1 ((defBody s_law_right).getD 1 (.Pass ⟨0, 0, 0, 0⟩))).getD 0 (.Pass ⟨0, 0, 0, 0⟩)) m_law_right_2 := by
  exact (ss_set (i := 2) sc_law_right.nd (se_call S_law_of.x hr (by decide) (sa_cons (se_var (i := 0)) (sa_cons (se_lst (sa_cons (se_add se_int (se_call S_law_take.x hr (by decide) (sa_cons (se_var (i := 0)) (sa_cons se_int sa_nil)))) (sa_cons (se_add se_int (se_call S_law_take.x hr (by decide) (sa_cons (se_var (i := 0)) (sa_cons se_int sa_nil)))) (sa_cons se_int sa_nil)))) sa_nil))))
theorem t_law_right_3 {f : Addr} (B : Bt mg) (S_reach_of : FS P w K mg base cl 6 "reach_of" 2 m_reach_of) (S_missed_by : FS P w K mg base cl 7 "missed_by" 2 m_missed_by) (S_best_reach : FS P w K mg base cl 1 "best_reach" 2 m_best_reach) (S_law_take : FS P w K mg base cl 1 "_law_take" 2 m_law_take) (S_law_of : FS P w K mg base cl 2 "_law_of" 2 m_law_of) (S_law_same : FS P w K mg base cl 6 "_law_same" 2 (m_law_same 5)) (S_law_pick : FS P w K mg base cl 2 "_law_pick" 3 m_law_pick) (S_law_ascending : FS P w K mg base cl 1 "_law_ascending" 1 m_law_ascending) (S_law_missed : FS P w K mg base cl 1 "_law_missed" 2 m_law_missed) (S_law_best : FS P w K mg base cl 2 "_law_best" 2 m_law_best) (S_law_hand_right : FS P w K mg base cl 8 "_law_hand_right" 0 m_law_hand_right) (K_best_reach_0 : FK P w K mg base cl 1 "best_reach" 2 m_best_reach 0 ["many", "width"] [1, 0]) (K_missed_by_0 : FK P w K mg base cl 7 "missed_by" 2 m_missed_by 0 ["starts", "width"] [1, 0]) (K_reach_of_0 : FK P w K mg base cl 6 "reach_of" 2 m_reach_of 0 ["starts", "width"] [1, 0]) (cdv : Value) (A : Around) (outer : List Env) (s : Shared) (H : Hp) (E : XK) (hr : Room 8 (A.deeper (envOfC "_law_right" (defScope s_law_right) s.heap.objs.size f cdv))) :
    SS (cxOf CX0 P w K mg base ["_law_box_here", "_law_turn", "_law_wide", "_law_row_so", "_law_due", "_law_got", "_law_size"] "_law_right" (defScope s_law_right) f cdv A outer s H E).nox cl ((sub1 ((defBody s_law_right).getD 1 (.Pass ⟨0, 0, 0, 0⟩))).getD 1 (.Pass ⟨0, 0, 0, 0⟩)) m_law_right_3 := by
  exact (ss_set (i := 3) sc_law_right.nd (se_call S_law_pick.x hr (by decide) (sa_cons (se_var (i := 0)) (sa_cons (se_rg1 B.list B.range (se_var (i := 2))) (sa_cons (se_add se_int (se_call S_law_take.x hr (by decide) (sa_cons (se_var (i := 0)) (sa_cons (se_min B.min (sa_cons (se_int1 B.int (sa_cons (se_var (i := 2)) sa_nil)) (sa_cons se_int sa_nil))) sa_nil)))) sa_nil)))))
theorem t_law_right_4 {f : Addr} (B : Bt mg) (S_reach_of : FS P w K mg base cl 6 "reach_of" 2 m_reach_of) (S_missed_by : FS P w K mg base cl 7 "missed_by" 2 m_missed_by) (S_best_reach : FS P w K mg base cl 1 "best_reach" 2 m_best_reach) (S_law_take : FS P w K mg base cl 1 "_law_take" 2 m_law_take) (S_law_of : FS P w K mg base cl 2 "_law_of" 2 m_law_of) (S_law_same : FS P w K mg base cl 6 "_law_same" 2 (m_law_same 5)) (S_law_pick : FS P w K mg base cl 2 "_law_pick" 3 m_law_pick) (S_law_ascending : FS P w K mg base cl 1 "_law_ascending" 1 m_law_ascending) (S_law_missed : FS P w K mg base cl 1 "_law_missed" 2 m_law_missed) (S_law_best : FS P w K mg base cl 2 "_law_best" 2 m_law_best) (S_law_hand_right : FS P w K mg base cl 8 "_law_hand_right" 0 m_law_hand_right) (K_best_reach_0 : FK P w K mg base cl 1 "best_reach" 2 m_best_reach 0 ["many", "width"] [1, 0]) (K_missed_by_0 : FK P w K mg base cl 7 "missed_by" 2 m_missed_by 0 ["starts", "width"] [1, 0]) (K_reach_of_0 : FK P w K mg base cl 6 "reach_of" 2 m_reach_of 0 ["starts", "width"] [1, 0]) (cdv : Value) (A : Around) (outer : List Env) (s : Shared) (H : Hp) (E : XK) (hr : Room 8 (A.deeper (envOfC "_law_right" (defScope s_law_right) s.heap.objs.size f cdv))) :
    SS (cxOf CX0 P w K mg base ["_law_box_here", "_law_turn", "_law_wide", "_law_row_so", "_law_due", "_law_got", "_law_size"] "_law_right" (defScope s_law_right) f cdv A outer s H E).nox cl ((sub1 ((defBody s_law_right).getD 1 (.Pass ⟨0, 0, 0, 0⟩))).getD 2 (.Pass ⟨0, 0, 0, 0⟩)) m_law_right_4 := by
  exact (ss_set (i := 3) sc_law_right.nd (se_tuple B.tuple (sa_cons (se_call S_law_ascending.x hr (by decide) (sa_cons (se_var (i := 3)) sa_nil)) sa_nil)))
theorem t_law_right_5 {f : Addr} (B : Bt mg) (S_reach_of : FS P w K mg base cl 6 "reach_of" 2 m_reach_of) (S_missed_by : FS P w K mg base cl 7 "missed_by" 2 m_missed_by) (S_best_reach : FS P w K mg base cl 1 "best_reach" 2 m_best_reach) (S_law_take : FS P w K mg base cl 1 "_law_take" 2 m_law_take) (S_law_of : FS P w K mg base cl 2 "_law_of" 2 m_law_of) (S_law_same : FS P w K mg base cl 6 "_law_same" 2 (m_law_same 5)) (S_law_pick : FS P w K mg base cl 2 "_law_pick" 3 m_law_pick) (S_law_ascending : FS P w K mg base cl 1 "_law_ascending" 1 m_law_ascending) (S_law_missed : FS P w K mg base cl 1 "_law_missed" 2 m_law_missed) (S_law_best : FS P w K mg base cl 2 "_law_best" 2 m_law_best) (S_law_hand_right : FS P w K mg base cl 8 "_law_hand_right" 0 m_law_hand_right) (K_best_reach_0 : FK P w K mg base cl 1 "best_reach" 2 m_best_reach 0 ["many", "width"] [1, 0]) (K_missed_by_0 : FK P w K mg base cl 7 "missed_by" 2 m_missed_by 0 ["starts", "width"] [1, 0]) (K_reach_of_0 : FK P w K mg base cl 6 "reach_of" 2 m_reach_of 0 ["starts", "width"] [1, 0]) (cdv : Value) (A : Around) (outer : List Env) (s : Shared) (H : Hp) (E : XK) (hr : Room 8 (A.deeper (envOfC "_law_right" (defScope s_law_right) s.heap.objs.size f cdv))) :
    SS (cxOf CX0 P w K mg base ["_law_box_here", "_law_turn", "_law_wide", "_law_row_so", "_law_due", "_law_got", "_law_size"] "_law_right" (defScope s_law_right) f cdv A outer s H E).nox cl ((sub1 ((defBody s_law_right).getD 1 (.Pass ⟨0, 0, 0, 0⟩))).getD 3 (.Pass ⟨0, 0, 0, 0⟩)) m_law_right_5 := by
  exact (ss_set (i := 4) sc_law_right.nd (se_call S_law_missed.x hr (by decide) (sa_cons (se_var (i := 2)) (sa_cons (se_var (i := 3)) sa_nil))))
theorem t_law_right_6 {f : Addr} (B : Bt mg) (S_reach_of : FS P w K mg base cl 6 "reach_of" 2 m_reach_of) (S_missed_by : FS P w K mg base cl 7 "missed_by" 2 m_missed_by) (S_best_reach : FS P w K mg base cl 1 "best_reach" 2 m_best_reach) (S_law_take : FS P w K mg base cl 1 "_law_take" 2 m_law_take) (S_law_of : FS P w K mg base cl 2 "_law_of" 2 m_law_of) (S_law_same : FS P w K mg base cl 6 "_law_same" 2 (m_law_same 5)) (S_law_pick : FS P w K mg base cl 2 "_law_pick" 3 m_law_pick) (S_law_ascending : FS P w K mg base cl 1 "_law_ascending" 1 m_law_ascending) (S_law_missed : FS P w K mg base cl 1 "_law_missed" 2 m_law_missed) (S_law_best : FS P w K mg base cl 2 "_law_best" 2 m_law_best) (S_law_hand_right : FS P w K mg base cl 8 "_law_hand_right" 0 m_law_hand_right) (K_best_reach_0 : FK P w K mg base cl 1 "best_reach" 2 m_best_reach 0 ["many", "width"] [1, 0]) (K_missed_by_0 : FK P w K mg base cl 7 "missed_by" 2 m_missed_by 0 ["starts", "width"] [1, 0]) (K_reach_of_0 : FK P w K mg base cl 6 "reach_of" 2 m_reach_of 0 ["starts", "width"] [1, 0]) (cdv : Value) (A : Around) (outer : List Env) (s : Shared) (H : Hp) (E : XK) (hr : Room 8 (A.deeper (envOfC "_law_right" (defScope s_law_right) s.heap.objs.size f cdv))) :
    SS (cxOf CX0 P w K mg base ["_law_box_here", "_law_turn", "_law_wide", "_law_row_so", "_law_due", "_law_got", "_law_size"] "_law_right" (defScope s_law_right) f cdv A outer s H E).nox cl ((sub1 ((defBody s_law_right).getD 1 (.Pass ⟨0, 0, 0, 0⟩))).getD 4 (.Pass ⟨0, 0, 0, 0⟩)) m_law_right_6 := by
  exact (ss_set (i := 5) sc_law_right.nd (se_lst (sa_cons (se_call S_missed_by.x hr (by decide) (sa_cons (se_var (i := 2)) (sa_cons (se_var (i := 3)) sa_nil))) (sa_cons (se_callK0 K_missed_by_0.x hr (by decide) (sk_cons (se_list B.list (sa_cons (se_var (i := 3)) sa_nil)) (sk_cons (se_var (i := 2)) sk_nil))) sa_nil))))
theorem t_law_right_7 {f : Addr} (B : Bt mg) (S_reach_of : FS P w K mg base cl 6 "reach_of" 2 m_reach_of) (S_missed_by : FS P w K mg base cl 7 "missed_by" 2 m_missed_by) (S_best_reach : FS P w K mg base cl 1 "best_reach" 2 m_best_reach) (S_law_take : FS P w K mg base cl 1 "_law_take" 2 m_law_take) (S_law_of : FS P w K mg base cl 2 "_law_of" 2 m_law_of) (S_law_same : FS P w K mg base cl 6 "_law_same" 2 (m_law_same 5)) (S_law_pick : FS P w K mg base cl 2 "_law_pick" 3 m_law_pick) (S_law_ascending : FS P w K mg base cl 1 "_law_ascending" 1 m_law_ascending) (S_law_missed : FS P w K mg base cl 1 "_law_missed" 2 m_law_missed) (S_law_best : FS P w K mg base cl 2 "_law_best" 2 m_law_best) (S_law_hand_right : FS P w K mg base cl 8 "_law_hand_right" 0 m_law_hand_right) (K_best_reach_0 : FK P w K mg base cl 1 "best_reach" 2 m_best_reach 0 ["many", "width"] [1, 0]) (K_missed_by_0 : FK P w K mg base cl 7 "missed_by" 2 m_missed_by 0 ["starts", "width"] [1, 0]) (K_reach_of_0 : FK P w K mg base cl 6 "reach_of" 2 m_reach_of 0 ["starts", "width"] [1, 0]) (cdv : Value) (A : Around) (outer : List Env) (s : Shared) (H : Hp) (E : XK) (hr : Room 8 (A.deeper (envOfC "_law_right" (defScope s_law_right) s.heap.objs.size f cdv))) :
    SS (cxOf CX0 P w K mg base ["_law_box_here", "_law_turn", "_law_wide", "_law_row_so", "_law_due", "_law_got", "_law_size"] "_law_right" (defScope s_law_right) f cdv A outer s H E).nox cl ((sub1 ((defBody s_law_right).getD 1 (.Pass ⟨0, 0, 0, 0⟩))).getD 5 (.Pass ⟨0, 0, 0, 0⟩)) m_law_right_7 := by
  exact (ss_set (i := 5) sc_law_right.nd (se_add (se_var (i := 5)) (se_lst (sa_cons (se_call S_reach_of.x hr (by decide) (sa_cons (se_var (i := 2)) (sa_cons (se_var (i := 3)) sa_nil))) (sa_cons (se_callK0 K_reach_of_0.x hr (by decide) (sk_cons (se_list B.list (sa_cons (se_var (i := 3)) sa_nil)) (sk_cons (se_var (i := 2)) sk_nil))) sa_nil)))))
theorem t_law_right_8 {f : Addr} (B : Bt mg) (S_reach_of : FS P w K mg base cl 6 "reach_of" 2 m_reach_of) (S_missed_by : FS P w K mg base cl 7 "missed_by" 2 m_missed_by) (S_best_reach : FS P w K mg base cl 1 "best_reach" 2 m_best_reach) (S_law_take : FS P w K mg base cl 1 "_law_take" 2 m_law_take) (S_law_of : FS P w K mg base cl 2 "_law_of" 2 m_law_of) (S_law_same : FS P w K mg base cl 6 "_law_same" 2 (m_law_same 5)) (S_law_pick : FS P w K mg base cl 2 "_law_pick" 3 m_law_pick) (S_law_ascending : FS P w K mg base cl 1 "_law_ascending" 1 m_law_ascending) (S_law_missed : FS P w K mg base cl 1 "_law_missed" 2 m_law_missed) (S_law_best : FS P w K mg base cl 2 "_law_best" 2 m_law_best) (S_law_hand_right : FS P w K mg base cl 8 "_law_hand_right" 0 m_law_hand_right) (K_best_reach_0 : FK P w K mg base cl 1 "best_reach" 2 m_best_reach 0 ["many", "width"] [1, 0]) (K_missed_by_0 : FK P w K mg base cl 7 "missed_by" 2 m_missed_by 0 ["starts", "width"] [1, 0]) (K_reach_of_0 : FK P w K mg base cl 6 "reach_of" 2 m_reach_of 0 ["starts", "width"] [1, 0]) (cdv : Value) (A : Around) (outer : List Env) (s : Shared) (H : Hp) (E : XK) (hr : Room 8 (A.deeper (envOfC "_law_right" (defScope s_law_right) s.heap.objs.size f cdv))) :
    SS (cxOf CX0 P w K mg base ["_law_box_here", "_law_turn", "_law_wide", "_law_row_so", "_law_due", "_law_got", "_law_size"] "_law_right" (defScope s_law_right) f cdv A outer s H E).nox cl ((sub1 ((sub1 ((defBody s_law_right).getD 1 (.Pass ⟨0, 0, 0, 0⟩))).getD 6 (.Pass ⟨0, 0, 0, 0⟩))).getD 0 (.Pass ⟨0, 0, 0, 0⟩)) m_law_right_8 := by
  exact (ss_ret se_bl)
theorem t_law_right_9 {f : Addr} (B : Bt mg) (S_reach_of : FS P w K mg base cl 6 "reach_of" 2 m_reach_of) (S_missed_by : FS P w K mg base cl 7 "missed_by" 2 m_missed_by) (S_best_reach : FS P w K mg base cl 1 "best_reach" 2 m_best_reach) (S_law_take : FS P w K mg base cl 1 "_law_take" 2 m_law_take) (S_law_of : FS P w K mg base cl 2 "_law_of" 2 m_law_of) (S_law_same : FS P w K mg base cl 6 "_law_same" 2 (m_law_same 5)) (S_law_pick : FS P w K mg base cl 2 "_law_pick" 3 m_law_pick) (S_law_ascending : FS P w K mg base cl 1 "_law_ascending" 1 m_law_ascending) (S_law_missed : FS P w K mg base cl 1 "_law_missed" 2 m_law_missed) (S_law_best : FS P w K mg base cl 2 "_law_best" 2 m_law_best) (S_law_hand_right : FS P w K mg base cl 8 "_law_hand_right" 0 m_law_hand_right) (K_best_reach_0 : FK P w K mg base cl 1 "best_reach" 2 m_best_reach 0 ["many", "width"] [1, 0]) (K_missed_by_0 : FK P w K mg base cl 7 "missed_by" 2 m_missed_by 0 ["starts", "width"] [1, 0]) (K_reach_of_0 : FK P w K mg base cl 6 "reach_of" 2 m_reach_of 0 ["starts", "width"] [1, 0]) (cdv : Value) (A : Around) (outer : List Env) (s : Shared) (H : Hp) (E : XK) (hr : Room 8 (A.deeper (envOfC "_law_right" (defScope s_law_right) s.heap.objs.size f cdv))) :
    SS (cxOf CX0 P w K mg base ["_law_box_here", "_law_turn", "_law_wide", "_law_row_so", "_law_due", "_law_got", "_law_size"] "_law_right" (defScope s_law_right) f cdv A outer s H E).nox cl ((sub1 ((defBody s_law_right).getD 1 (.Pass ⟨0, 0, 0, 0⟩))).getD 6 (.Pass ⟨0, 0, 0, 0⟩)) m_law_right_9 := by
  exact (ss_if (st_not (st_val (se_call S_law_same.x hr (by decide) (sa_cons (se_var (i := 5)) (sa_cons (se_add (se_lst (sa_cons (se_var (i := 4)) (sa_cons (se_var (i := 4)) sa_nil))) (se_mul (se_lst (sa_cons (se_sub (se_sub (se_ix (se_var (i := 4)) se_int) (se_ix (se_var (i := 4)) se_int)) se_int) sa_nil)) se_int)) sa_nil))))) (sss_one (t_law_right_8 B S_reach_of S_missed_by S_best_reach S_law_take S_law_of S_law_same S_law_pick S_law_ascending S_law_missed S_law_best S_law_hand_right K_best_reach_0 K_missed_by_0 K_reach_of_0 cdv A outer s H E hr)) sss_nil)
theorem t_law_right_11 {f : Addr} (B : Bt mg) (S_reach_of : FS P w K mg base cl 6 "reach_of" 2 m_reach_of) (S_missed_by : FS P w K mg base cl 7 "missed_by" 2 m_missed_by) (S_best_reach : FS P w K mg base cl 1 "best_reach" 2 m_best_reach) (S_law_take : FS P w K mg base cl 1 "_law_take" 2 m_law_take) (S_law_of : FS P w K mg base cl 2 "_law_of" 2 m_law_of) (S_law_same : FS P w K mg base cl 6 "_law_same" 2 (m_law_same 5)) (S_law_pick : FS P w K mg base cl 2 "_law_pick" 3 m_law_pick) (S_law_ascending : FS P w K mg base cl 1 "_law_ascending" 1 m_law_ascending) (S_law_missed : FS P w K mg base cl 1 "_law_missed" 2 m_law_missed) (S_law_best : FS P w K mg base cl 2 "_law_best" 2 m_law_best) (S_law_hand_right : FS P w K mg base cl 8 "_law_hand_right" 0 m_law_hand_right) (K_best_reach_0 : FK P w K mg base cl 1 "best_reach" 2 m_best_reach 0 ["many", "width"] [1, 0]) (K_missed_by_0 : FK P w K mg base cl 7 "missed_by" 2 m_missed_by 0 ["starts", "width"] [1, 0]) (K_reach_of_0 : FK P w K mg base cl 6 "reach_of" 2 m_reach_of 0 ["starts", "width"] [1, 0]) (cdv : Value) (A : Around) (outer : List Env) (s : Shared) (H : Hp) (E : XK) (hr : Room 8 (A.deeper (envOfC "_law_right" (defScope s_law_right) s.heap.objs.size f cdv))) :
    SS (cxOf CX0 P w K mg base ["_law_box_here", "_law_turn", "_law_wide", "_law_row_so", "_law_due", "_law_got", "_law_size"] "_law_right" (defScope s_law_right) f cdv A outer s H E).nox cl ((defBody s_law_right).getD 1 (.Pass ⟨0, 0, 0, 0⟩)) m_law_right_11 := by
  exact (ss_for (si_range1 B.range (sa_cons se_int sa_nil)) (sg_name (i := 1) (vs := [1]) sc_law_right.nd) (sss_cons (t_law_right_2 B S_reach_of S_missed_by S_best_reach S_law_take S_law_of S_law_same S_law_pick S_law_ascending S_law_missed S_law_best S_law_hand_right K_best_reach_0 K_missed_by_0 K_reach_of_0 cdv A outer s H E hr)
    (sss_cons (t_law_right_3 B S_reach_of S_missed_by S_best_reach S_law_take S_law_of S_law_same S_law_pick S_law_ascending S_law_missed S_law_best S_law_hand_right K_best_reach_0 K_missed_by_0 K_reach_of_0 cdv A outer s H E hr)
    (sss_cons (t_law_right_4 B S_reach_of S_missed_by S_best_reach S_law_take S_law_of S_law_same S_law_pick S_law_ascending S_law_missed S_law_best S_law_hand_right K_best_reach_0 K_missed_by_0 K_reach_of_0 cdv A outer s H E hr)
    (sss_cons (t_law_right_5 B S_reach_of S_missed_by S_best_reach S_law_take S_law_of S_law_same S_law_pick S_law_ascending S_law_missed S_law_best S_law_hand_right K_best_reach_0 K_missed_by_0 K_reach_of_0 cdv A outer s H E hr)
    (sss_cons (t_law_right_6 B S_reach_of S_missed_by S_best_reach S_law_take S_law_of S_law_same S_law_pick S_law_ascending S_law_missed S_law_best S_law_hand_right K_best_reach_0 K_missed_by_0 K_reach_of_0 cdv A outer s H E hr)
    (sss_cons (t_law_right_7 B S_reach_of S_missed_by S_best_reach S_law_take S_law_of S_law_same S_law_pick S_law_ascending S_law_missed S_law_best S_law_hand_right K_best_reach_0 K_missed_by_0 K_reach_of_0 cdv A outer s H E hr)
    (sss_one (t_law_right_9 B S_reach_of S_missed_by S_best_reach S_law_take S_law_of S_law_same S_law_pick S_law_ascending S_law_missed S_law_best S_law_hand_right K_best_reach_0 K_missed_by_0 K_reach_of_0 cdv A outer s H E hr)))))))))
theorem t_law_right_12 {f : Addr} (B : Bt mg) (S_reach_of : FS P w K mg base cl 6 "reach_of" 2 m_reach_of) (S_missed_by : FS P w K mg base cl 7 "missed_by" 2 m_missed_by) (S_best_reach : FS P w K mg base cl 1 "best_reach" 2 m_best_reach) (S_law_take : FS P w K mg base cl 1 "_law_take" 2 m_law_take) (S_law_of : FS P w K mg base cl 2 "_law_of" 2 m_law_of) (S_law_same : FS P w K mg base cl 6 "_law_same" 2 (m_law_same 5)) (S_law_pick : FS P w K mg base cl 2 "_law_pick" 3 m_law_pick) (S_law_ascending : FS P w K mg base cl 1 "_law_ascending" 1 m_law_ascending) (S_law_missed : FS P w K mg base cl 1 "_law_missed" 2 m_law_missed) (S_law_best : FS P w K mg base cl 2 "_law_best" 2 m_law_best) (S_law_hand_right : FS P w K mg base cl 8 "_law_hand_right" 0 m_law_hand_right) (K_best_reach_0 : FK P w K mg base cl 1 "best_reach" 2 m_best_reach 0 ["many", "width"] [1, 0]) (K_missed_by_0 : FK P w K mg base cl 7 "missed_by" 2 m_missed_by 0 ["starts", "width"] [1, 0]) (K_reach_of_0 : FK P w K mg base cl 6 "reach_of" 2 m_reach_of 0 ["starts", "width"] [1, 0]) (cdv : Value) (A : Around) (outer : List Env) (s : Shared) (H : Hp) (E : XK) (hr : Room 8 (A.deeper (envOfC "_law_right" (defScope s_law_right) s.heap.objs.size f cdv))) :
    SS (cxOf CX0 P w K mg base ["_law_box_here", "_law_turn", "_law_wide", "_law_row_so", "_law_due", "_law_got", "_law_size"] "_law_right" (defScope s_law_right) f cdv A outer s H E).nox cl ((defBody s_law_right).getD 2 (.Pass ⟨0, 0, 0, 0⟩)) m_law_right_12 := by
  exact (ss_set (i := 2) sc_law_right.nd (se_add se_int (se_call S_law_take.x hr (by decide) (sa_cons (se_var (i := 0)) (sa_cons se_int sa_nil)))))
theorem t_law_right_13 {f : Addr} (B : Bt mg) (S_reach_of : FS P w K mg base cl 6 "reach_of" 2 m_reach_of) (S_missed_by : FS P w K mg base cl 7 "missed_by" 2 m_missed_by) (S_best_reach : FS P w K mg base cl 1 "best_reach" 2 m_best_reach) (S_law_take : FS P w K mg base cl 1 "_law_take" 2 m_law_take) (S_law_of : FS P w K mg base cl 2 "_law_of" 2 m_law_of) (S_law_same : FS P w K mg base cl 6 "_law_same" 2 (m_law_same 5)) (S_law_pick : FS P w K mg base cl 2 "_law_pick" 3 m_law_pick) (S_law_ascending : FS P w K mg base cl 1 "_law_ascending" 1 m_law_ascending) (S_law_missed : FS P w K mg base cl 1 "_law_missed" 2 m_law_missed) (S_law_best : FS P w K mg base cl 2 "_law_best" 2 m_law_best) (S_law_hand_right : FS P w K mg base cl 8 "_law_hand_right" 0 m_law_hand_right) (K_best_reach_0 : FK P w K mg base cl 1 "best_reach" 2 m_best_reach 0 ["many", "width"] [1, 0]) (K_missed_by_0 : FK P w K mg base cl 7 "missed_by" 2 m_missed_by 0 ["starts", "width"] [1, 0]) (K_reach_of_0 : FK P w K mg base cl 6 "reach_of" 2 m_reach_of 0 ["starts", "width"] [1, 0]) (cdv : Value) (A : Around) (outer : List Env) (s : Shared) (H : Hp) (E : XK) (hr : Room 8 (A.deeper (envOfC "_law_right" (defScope s_law_right) s.heap.objs.size f cdv))) :
    SS (cxOf CX0 P w K mg base ["_law_box_here", "_law_turn", "_law_wide", "_law_row_so", "_law_due", "_law_got", "_law_size"] "_law_right" (defScope s_law_right) f cdv A outer s H E).nox cl ((defBody s_law_right).getD 3 (.Pass ⟨0, 0, 0, 0⟩)) m_law_right_13 := by
  exact (ss_set (i := 6) sc_law_right.nd (se_add se_int (se_call S_law_take.x hr (by decide) (sa_cons (se_var (i := 0)) (sa_cons (se_var (i := 2)) sa_nil)))))
theorem t_law_right_14 {f : Addr} (B : Bt mg) (S_reach_of : FS P w K mg base cl 6 "reach_of" 2 m_reach_of) (S_missed_by : FS P w K mg base cl 7 "missed_by" 2 m_missed_by) (S_best_reach : FS P w K mg base cl 1 "best_reach" 2 m_best_reach) (S_law_take : FS P w K mg base cl 1 "_law_take" 2 m_law_take) (S_law_of : FS P w K mg base cl 2 "_law_of" 2 m_law_of) (S_law_same : FS P w K mg base cl 6 "_law_same" 2 (m_law_same 5)) (S_law_pick : FS P w K mg base cl 2 "_law_pick" 3 m_law_pick) (S_law_ascending : FS P w K mg base cl 1 "_law_ascending" 1 m_law_ascending) (S_law_missed : FS P w K mg base cl 1 "_law_missed" 2 m_law_missed) (S_law_best : FS P w K mg base cl 2 "_law_best" 2 m_law_best) (S_law_hand_right : FS P w K mg base cl 8 "_law_hand_right" 0 m_law_hand_right) (K_best_reach_0 : FK P w K mg base cl 1 "best_reach" 2 m_best_reach 0 ["many", "width"] [1, 0]) (K_missed_by_0 : FK P w K mg base cl 7 "missed_by" 2 m_missed_by 0 ["starts", "width"] [1, 0]) (K_reach_of_0 : FK P w K mg base cl 6 "reach_of" 2 m_reach_of 0 ["starts", "width"] [1, 0]) (cdv : Value) (A : Around) (outer : List Env) (s : Shared) (H : Hp) (E : XK) (hr : Room 8 (A.deeper (envOfC "_law_right" (defScope s_law_right) s.heap.objs.size f cdv))) :
    SS (cxOf CX0 P w K mg base ["_law_box_here", "_law_turn", "_law_wide", "_law_row_so", "_law_due", "_law_got", "_law_size"] "_law_right" (defScope s_law_right) f cdv A outer s H E).nox cl ((defBody s_law_right).getD 4 (.Pass ⟨0, 0, 0, 0⟩)) m_law_right_14 := by
  exact (ss_set (i := 4) sc_law_right.nd (se_call S_law_best.x hr (by decide) (sa_cons (se_var (i := 2)) (sa_cons (se_var (i := 6)) sa_nil))))
theorem t_law_right_15 {f : Addr} (B : Bt mg) (S_reach_of : FS P w K mg base cl 6 "reach_of" 2 m_reach_of) (S_missed_by : FS P w K mg base cl 7 "missed_by" 2 m_missed_by) (S_best_reach : FS P w K mg base cl 1 "best_reach" 2 m_best_reach) (S_law_take : FS P w K mg base cl 1 "_law_take" 2 m_law_take) (S_law_of : FS P w K mg base cl 2 "_law_of" 2 m_law_of) (S_law_same : FS P w K mg base cl 6 "_law_same" 2 (m_law_same 5)) (S_law_pick : FS P w K mg base cl 2 "_law_pick" 3 m_law_pick) (S_law_ascending : FS P w K mg base cl 1 "_law_ascending" 1 m_law_ascending) (S_law_missed : FS P w K mg base cl 1 "_law_missed" 2 m_law_missed) (S_law_best : FS P w K mg base cl 2 "_law_best" 2 m_law_best) (S_law_hand_right : FS P w K mg base cl 8 "_law_hand_right" 0 m_law_hand_right) (K_best_reach_0 : FK P w K mg base cl 1 "best_reach" 2 m_best_reach 0 ["many", "width"] [1, 0]) (K_missed_by_0 : FK P w K mg base cl 7 "missed_by" 2 m_missed_by 0 ["starts", "width"] [1, 0]) (K_reach_of_0 : FK P w K mg base cl 6 "reach_of" 2 m_reach_of 0 ["starts", "width"] [1, 0]) (cdv : Value) (A : Around) (outer : List Env) (s : Shared) (H : Hp) (E : XK) (hr : Room 8 (A.deeper (envOfC "_law_right" (defScope s_law_right) s.heap.objs.size f cdv))) :
    SS (cxOf CX0 P w K mg base ["_law_box_here", "_law_turn", "_law_wide", "_law_row_so", "_law_due", "_law_got", "_law_size"] "_law_right" (defScope s_law_right) f cdv A outer s H E).nox cl ((defBody s_law_right).getD 5 (.Pass ⟨0, 0, 0, 0⟩)) m_law_right_15 := by
  exact (ss_ret (se_call S_law_same.x hr (by decide) (sa_cons (se_lst (sa_cons (se_call S_best_reach.x hr (by decide) (sa_cons (se_var (i := 2)) (sa_cons (se_var (i := 6)) sa_nil))) (sa_cons (se_callK0 K_best_reach_0.x hr (by decide) (sk_cons (se_var (i := 6)) (sk_cons (se_var (i := 2)) sk_nil))) sa_nil))) (sa_cons (se_lst (sa_cons (se_var (i := 4)) (sa_cons (se_var (i := 4)) sa_nil))) sa_nil))))
theorem ok_law_right {f : Addr} {fd : FuncData} (F : Fun K "_law_right" "_law_right" s_law_right f fd) (B : Bt mg) (S_reach_of : FS P w K mg base cl 6 "reach_of" 2 m_reach_of) (S_missed_by : FS P w K mg base cl 7 "missed_by" 2 m_missed_by) (S_best_reach : FS P w K mg base cl 1 "best_reach" 2 m_best_reach) (S_law_take : FS P w K mg base cl 1 "_law_take" 2 m_law_take) (S_law_of : FS P w K mg base cl 2 "_law_of" 2 m_law_of) (S_law_same : FS P w K mg base cl 6 "_law_same" 2 (m_law_same 5)) (S_law_pick : FS P w K mg base cl 2 "_law_pick" 3 m_law_pick) (S_law_ascending : FS P w K mg base cl 1 "_law_ascending" 1 m_law_ascending) (S_law_missed : FS P w K mg base cl 1 "_law_missed" 2 m_law_missed) (S_law_best : FS P w K mg base cl 2 "_law_best" 2 m_law_best) (S_law_hand_right : FS P w K mg base cl 8 "_law_hand_right" 0 m_law_hand_right) (K_best_reach_0 : FK P w K mg base cl 1 "best_reach" 2 m_best_reach 0 ["many", "width"] [1, 0]) (K_missed_by_0 : FK P w K mg base cl 7 "missed_by" 2 m_missed_by 0 ["starts", "width"] [1, 0]) (K_reach_of_0 : FK P w K mg base cl 6 "reach_of" 2 m_reach_of 0 ["starts", "width"] [1, 0]) : FnOk P w K mg base CX0 9 f fd ["_law_box_here"] (spM K cl 1 m_law_right) := by
  refine def_ok (N := ["_law_box_here", "_law_turn", "_law_wide", "_law_row_so", "_law_due", "_law_got", "_law_size"]) (n := 1) F sc_law_right rfl (fun cdv A outer s H E hr => ?_)
  exact (sss_cons (t_law_right_1 B S_reach_of S_missed_by S_best_reach S_law_take S_law_of S_law_same S_law_pick S_law_ascending S_law_missed S_law_best S_law_hand_right K_best_reach_0 K_missed_by_0 K_reach_of_0 cdv A outer s H E hr)
    (sss_cons (t_law_right_11 B S_reach_of S_missed_by S_best_reach S_law_take S_law_of S_law_same S_law_pick S_law_ascending S_law_missed S_law_best S_law_hand_right K_best_reach_0 K_missed_by_0 K_reach_of_0 cdv A outer s H E hr)
    (sss_cons (t_law_right_12 B S_reach_of S_missed_by S_best_reach S_law_take S_law_of S_law_same S_law_pick S_law_ascending S_law_missed S_law_best S_law_hand_right K_best_reach_0 K_missed_by_0 K_reach_of_0 cdv A outer s H E hr)
    (sss_cons (t_law_right_13 B S_reach_of S_missed_by S_best_reach S_law_take S_law_of S_law_same S_law_pick S_law_ascending S_law_missed S_law_best S_law_hand_right K_best_reach_0 K_missed_by_0 K_reach_of_0 cdv A outer s H E hr)
    (sss_cons (t_law_right_14 B S_reach_of S_missed_by S_best_reach S_law_take S_law_of S_law_same S_law_pick S_law_ascending S_law_missed S_law_best S_law_hand_right K_best_reach_0 K_missed_by_0 K_reach_of_0 cdv A outer s H E hr)
    (sss_one (t_law_right_15 B S_reach_of S_missed_by S_best_reach S_law_take S_law_of S_law_same S_law_pick S_law_ascending S_law_missed S_law_best S_law_hand_right K_best_reach_0 K_missed_by_0 K_reach_of_0 cdv A outer s H E hr)))))))
theorem fs_law_right {f : Addr} {fd : FuncData} (F : Fun K "_law_right" "_law_right" s_law_right f fd) (hm : mg "_law_right" = some (.ref f)) (B : Bt mg) (S_reach_of : FS P w K mg base cl 6 "reach_of" 2 m_reach_of) (S_missed_by : FS P w K mg base cl 7 "missed_by" 2 m_missed_by) (S_best_reach : FS P w K mg base cl 1 "best_reach" 2 m_best_reach) (S_law_take : FS P w K mg base cl 1 "_law_take" 2 m_law_take) (S_law_of : FS P w K mg base cl 2 "_law_of" 2 m_law_of) (S_law_same : FS P w K mg base cl 6 "_law_same" 2 (m_law_same 5)) (S_law_pick : FS P w K mg base cl 2 "_law_pick" 3 m_law_pick) (S_law_ascending : FS P w K mg base cl 1 "_law_ascending" 1 m_law_ascending) (S_law_missed : FS P w K mg base cl 1 "_law_missed" 2 m_law_missed) (S_law_best : FS P w K mg base cl 2 "_law_best" 2 m_law_best) (S_law_hand_right : FS P w K mg base cl 8 "_law_hand_right" 0 m_law_hand_right) (K_best_reach_0 : FK P w K mg base cl 1 "best_reach" 2 m_best_reach 0 ["many", "width"] [1, 0]) (K_missed_by_0 : FK P w K mg base cl 7 "missed_by" 2 m_missed_by 0 ["starts", "width"] [1, 0]) (K_reach_of_0 : FK P w K mg base cl 6 "reach_of" 2 m_reach_of 0 ["starts", "width"] [1, 0]) : FS P w K mg base cl 9 "_law_right" 1 m_law_right :=
  ⟨⟨f, fd, ["_law_box_here"], ok_law_right F B S_reach_of S_missed_by S_best_reach S_law_take S_law_of S_law_same S_law_pick S_law_ascending S_law_missed S_law_best S_law_hand_right K_best_reach_0 K_missed_by_0 K_reach_of_0, hm, F.kp, F.binds (ps := ["_law_box_here"]) fun _ _ _ _ _ _ us hl => match us, hl with | [_], _ => rfl, rfl⟩, fun rs μ z h => mDef_ar rs μ z h⟩
end
end NS
set_option Elab.async false
set_option linter.all false
set_option maxRecDepth 100000
set_option maxHeartbeats 4000000
namespace NS
open PySem PySem.Spec PyProof.Rows L2 DL
section
variable {P : Program} {w : World} {K : PySem.W.Frag} {mg : Str → Option Value} {base : Heap} {cl : Nat → Addr}
theorem t_law_0 {f : Addr} (B : Bt mg) (S_law_box : FS P w K mg base cl 1 "_law_box" 2 m_law_box) (S_law_cells : FS P w K mg base cl 1 "_law_cells" 2 m_law_cells) (S_law_right : FS P w K mg base cl 9 "_law_right" 1 m_law_right) (cdv : Value) (A : Around) (outer : List Env) (s : Shared) (H : Hp) (E : XK) (hr : Room 9 (A.deeper (envOfC "law" (defScope s_law) s.heap.objs.size f cdv))) :
    SS (cxOf CX0 P w K mg base ["_law_script", "_law_cells_so", "_law_k_so"] "law" (defScope s_law) f cdv A outer s H E).nox cl ((defBody s_law).getD 0 (.Pass ⟨0, 0, 0, 0⟩)) m_law_0 := by
  exact (ss_set (i := 1) sc_law.nd (se_call S_law_cells.x hr (by decide) (sa_cons (se_var (i := 0)) (sa_cons se_int sa_nil))))
theorem t_law_2 {f : Addr} (B : Bt mg) (S_law_box : FS P w K mg base cl 1 "_law_box" 2 m_law_box) (S_law_cells : FS P w K mg base cl 1 "_law_cells" 2 m_law_cells) (S_law_right : FS P w K mg base cl 9 "_law_right" 1 m_law_right) (cdv : Value) (A : Around) (outer : List Env) (s : Shared) (H : Hp) (E : XK) (hr : Room 9 (A.deeper (envOfC "law" (defScope s_law) s.heap.objs.size f cdv))) :
    SS (cxOf CX0 P w K mg base ["_law_script", "_law_cells_so", "_law_k_so"] "law" (defScope s_law) f cdv A outer s H E).nox cl ((defBody s_law).getD 1 (.Pass ⟨0, 0, 0, 0⟩)) m_law_2 := by
  exact (ss_ret (se_all B.all (sa_cons (se_lc (own := [("_law_k_so", 2)]) sc_law.nd (si_range1 B.range (sa_cons (se_len B.len (sa_cons (se_var (i := 1)) sa_nil)) sa_nil)) (sem_name (by decide)) (fun _ _ _ _ _ => (sg_name (cl := cl) (vs := [2]) (i := 2) sc_law.nd).1) (fun _ _ _ _ _ => stt_nil) (fun _ _ _ _ _ => (se_call1 S_law_right hr (by decide) (se_call S_law_box.x hr (by decide) (sa_cons (se_var (i := 1)) (sa_cons (se_var (i := 2)) sa_nil))))) (blkOk_by (by kernel_rfl))) sa_nil)))
theorem ok_law {f : Addr} {fd : FuncData} (F : Fun K "law" "law" s_law f fd) (B : Bt mg) (S_law_box : FS P w K mg base cl 1 "_law_box" 2 m_law_box) (S_law_cells : FS P w K mg base cl 1 "_law_cells" 2 m_law_cells) (S_law_right : FS P w K mg base cl 9 "_law_right" 1 m_law_right) : FnOk P w K mg base CX0 10 f fd ["_law_script"] (spM K cl 1 m_law) := by
  refine def_ok (N := ["_law_script", "_law_cells_so", "_law_k_so"]) (n := 1) F sc_law rfl (fun cdv A outer s H E hr => ?_)
  exact (sss_cons (t_law_0 B S_law_box S_law_cells S_law_right cdv A outer s H E hr)
    (sss_one (t_law_2 B S_law_box S_law_cells S_law_right cdv A outer s H E hr)))
theorem fs_law {f : Addr} {fd : FuncData} (F : Fun K "law" "law" s_law f fd) (hm : mg "law" = some (.ref f)) (B : Bt mg) (S_law_box : FS P w K mg base cl 1 "_law_box" 2 m_law_box) (S_law_cells : FS P w K mg base cl 1 "_law_cells" 2 m_law_cells) (S_law_right : FS P w K mg base cl 9 "_law_right" 1 m_law_right) : FS P w K mg base cl 10 "law" 1 m_law :=
  ⟨⟨f, fd, ["_law_script"], ok_law F B S_law_box S_law_cells S_law_right, hm, F.kp, F.binds (ps := ["_law_script"]) fun _ _ _ _ _ _ us hl => match us, hl with | [_], _ => rfl, rfl⟩, fun rs μ z h => mDef_ar rs μ z h⟩
end
end NS
set_option Elab.async false
set_option linter.all false
set_option maxRecDepth 100000
set_option maxHeartbeats 1000000
namespace NS
open PySem L2 DL
/-! ### cells: the plain law -/
def gaps (g : Int) : List Int → Int
  | a :: b :: r => gaps (if b - a > g then b - a else g) (b :: r)
  | _ => g
theorem gaps_ge : ∀ (l : List Int) (g : Int), g ≤ gaps g l
  | [], g => Int.le_refl _
  | [_], g => Int.le_refl _
  | a :: b :: r, g => by
    have := gaps_ge (b :: r) (if b - a > g then b - a else g)
    unfold gaps
    have q : g ≤ (if b - a > g then b - a else g) := by split <;> omega
    omega
theorem gaps_cases : ∀ (l : List Int) (g : Int), gaps g l = g ∨ ∃ pre a b post, l = pre ++ a :: b :: post ∧ gaps g l = b - a
  | [], g => .inl rfl
  | [_], g => .inl rfl
  | a :: b :: r, g => by
    have h := gaps_cases (b :: r) (if b - a > g then b - a else g)
    rcases h with h | ⟨pre, c, d, post, h1, h2⟩
    · unfold gaps
      rw [h]
      split
      · exact .inr ⟨[], a, b, r, rfl, rfl⟩
      · exact .inl rfl
    · exact .inr ⟨a :: pre, c, d, post, by rw [h1]; rfl, by unfold gaps; exact h2⟩
theorem div0 {y w : Int} (h : 0 ≤ y) (h2 : y < w) : y / w = 0 := Int.ediv_eq_zero_of_lt h h2
theorem divm1 {y w : Int} (h : -w ≤ y) (h2 : y < 0) : y / w = -1 := by
  have hw : w ≠ 0 := by omega
  have e : y = (y + w) + (-1) * w := by omega
  rw [e, Int.add_mul_ediv_right _ _ hw, div0 (by omega) (by omega)]
  omega
theorem divge1 {y w : Int} (hw : 0 < w) (h : w ≤ y) : 1 ≤ y / w := Int.le_ediv_of_mul_le hw (by omega)
theorem divnn {y w : Int} (hw : 0 < w) (h : 0 ≤ y) : 0 ≤ y / w := Int.ediv_nonneg h (by omega)
theorem cov : ∀ (l : List Int) (a g x : Int), a ≤ x → x - (a :: l).getLast (List.cons_ne_nil _ _) < gaps g (a :: l) → ∃ k ∈ a :: l, k ≤ x ∧ x - k < gaps g (a :: l)
  | [], a, g, x, h1, h2 => ⟨a, List.mem_cons_self, h1, h2⟩
  | b :: r, a, g, x, h1, h2 => by
    have hg := gaps_ge (b :: r) (if b - a > g then b - a else g)
    by_cases hx : x < b
    · refine ⟨a, List.mem_cons_self, h1, ?_⟩
      unfold gaps
      have q : b - a ≤ (if b - a > g then b - a else g) := by split <;> omega
      omega
    · rw [List.getLast_cons (List.cons_ne_nil b r)] at h2
      unfold gaps at h2 ⊢
      obtain ⟨k, q1, q2, q3⟩ := cov r b (if b - a > g then b - a else g) x (by omega) h2
      exact ⟨k, List.mem_cons_of_mem _ q1, q2, q3⟩
structure Row (w : Int) (s : Int) (r : List Int) : Prop where
  asc : (s :: r).Pairwise (· < ·)
  low : ∀ k ∈ s :: r, 0 ≤ k
  high : ∀ k ∈ s :: r, k < w
section
variable {w s : Int} {r : List Int}
def lst (s : Int) (r : List Int) : Int := (s :: r).getLast (List.cons_ne_nil _ _)
def wide (w s : Int) (r : List Int) : Int := gaps (s + w - lst s r) (s :: r)
theorem lst_mem : lst s r ∈ s :: r := List.getLast_mem _
theorem lst_ge (h : Row w s r) : ∀ k ∈ s :: r, k ≤ lst s r := by
  intro k hk
  have key : ∀ (l : List Int) (hl : l ≠ []), l.Pairwise (· < ·) → ∀ k ∈ l, k ≤ l.getLast hl := by
    intro l
    induction l with
    | nil => exact fun hl => absurd rfl hl
    | cons a t ih =>
      intro hl hp k hk
      cases t with
      | nil =>
        rw [List.mem_singleton.mp hk]
        exact Int.le_refl _
      | cons b t =>
        rw [List.getLast_cons (List.cons_ne_nil b t)]
        rcases List.mem_cons.mp hk with e | e
        · subst e
          exact Int.le_of_lt ((List.pairwise_cons.mp hp).1 _ (List.getLast_mem _))
        · exact ih (List.cons_ne_nil b t) (List.pairwise_cons.mp hp).2 k e
  exact key _ _ h.asc k hk
theorem wide_ge : s + w - lst s r ≤ wide w s r := gaps_ge _ _
theorem s_le (h : Row w s r) : ∀ k ∈ s :: r, s ≤ k := by
  intro k hk
  rcases List.mem_cons.mp hk with e | e
  · omega
  · exact Int.le_of_lt ((List.pairwise_cons.mp h.asc).1 k e)
theorem covered (h : Row w s r) {far x : Int} (h1 : 1 ≤ far) (h2 : far ≤ w - wide w s r) (hx : 0 ≤ x) (hx2 : x < w) : ∃ k ∈ s :: r, (x - k) / w = (x + far - k) / w := by
  have l1 := h.low _ (lst_mem (s := s) (r := r))
  have l2 := h.high _ (lst_mem (s := s) (r := r))
  have s0 := h.low s List.mem_cons_self
  have g := wide_ge (w := w) (s := s) (r := r)
  by_cases hs : s ≤ x
  · obtain ⟨k, q1, q2, q3⟩ := cov r s (s + w - lst s r) x hs (by show x - lst s r < wide w s r; omega)
    have q3' : x - k < wide w s r := q3
    exact ⟨k, q1, by rw [div0 (by omega) (by omega), div0 (by omega) (by omega)]⟩
  · exact ⟨lst s r, lst_mem, by rw [divm1 (by omega) (by omega), divm1 (by omega) (by omega)]⟩
theorem wide_bounds (h : Row w s r) : 1 ≤ wide w s r ∧ wide w s r ≤ w := by
  have l2 := h.high _ (lst_mem (s := s) (r := r))
  have s0 := h.low s List.mem_cons_self
  have sl := s_le h _ lst_mem
  have g := wide_ge (w := w) (s := s) (r := r)
  refine ⟨by omega, ?_⟩
  rcases gaps_cases (s :: r) (s + w - lst s r) with e | ⟨pre, a, b, post, e1, e2⟩
  · show gaps _ _ ≤ w
    omega
  · have ha := h.low a (by rw [e1]; simp)
    have hb := h.high b (by rw [e1]; simp)
    show gaps _ _ ≤ w
    omega
theorem missed (h : Row w s r) : ∃ x, 0 ≤ x ∧ x < w ∧ ∀ k ∈ s :: r, (x - k) / w ≠ (x + (w - wide w s r + 1) - k) / w := by
  have l2 := h.high _ (lst_mem (s := s) (r := r))
  have s0 := h.low s List.mem_cons_self
  have sw := h.high s List.mem_cons_self
  have hw : 0 < w := by omega
  rcases gaps_cases (s :: r) (s + w - lst s r) with e | ⟨pre, a, b, post, e1, e2⟩
  · have e' : wide w s r = s + w - lst s r := e
    by_cases hs : 0 < s
    · refine ⟨s - 1, by omega, by omega, fun k hk z => ?_⟩
      have k1 := s_le h k hk
      have k2 := lst_ge h k hk
      have k3 := h.high k hk
      rw [divm1 (by omega) (by omega)] at z
      have := divnn hw (y := s - 1 + (w - wide w s r + 1) - k) (by omega)
      omega
    · refine ⟨w - 1, by omega, by omega, fun k hk z => ?_⟩
      have k2 := lst_ge h k hk
      have k3 := h.high k hk
      have k4 := h.low k hk
      rw [div0 (by omega) (by omega)] at z
      have := divge1 hw (y := w - 1 + (w - wide w s r + 1) - k) (by omega)
      omega
  · have e' : wide w s r = b - a := e2
    have asc := h.asc
    rw [e1] at asc
    obtain ⟨_, p2, p3⟩ := List.pairwise_append.mp asc
    obtain ⟨p4, p5⟩ := List.pairwise_cons.mp p2
    obtain ⟨p6, _⟩ := List.pairwise_cons.mp p5
    have hab := p4 b List.mem_cons_self
    have ha := h.low a (by rw [e1]; simp)
    have hb := h.high b (by rw [e1]; simp)
    refine ⟨b - 1, by omega, by omega, fun k hk z => ?_⟩
    have k3 := h.high k hk
    have k4 := h.low k hk
    have side : k ≤ a ∨ b ≤ k := by
      rw [e1] at hk
      rcases List.mem_append.mp hk with q | q
      · exact .inl (Int.le_of_lt (p3 k q a List.mem_cons_self))
      · rcases List.mem_cons.mp q with q | q
        · exact .inl (by omega)
        · rcases List.mem_cons.mp q with q | q
          · exact .inr (by omega)
          · exact .inr (Int.le_of_lt (p6 k q))
    rcases side with q | q
    · rw [div0 (by omega) (by omega)] at z
      have := divge1 hw (y := b - 1 + (w - wide w s r + 1) - k) (by omega)
      omega
    · rw [divm1 (by omega) (by omega)] at z
      have := divnn hw (y := b - 1 + (w - wide w s r + 1) - k) (by omega)
      omega
end
/-- no Grid of these has both in one cell -/
def torn (w far : Int) (row : List Int) (x : Int) : Bool := row.all fun k => decide ((x - k) / w ≠ (x + far - k) / w)
theorem torn_false {w far : Int} {row : List Int} {x : Int} (h : ∃ k ∈ row, (x - k) / w = (x + far - k) / w) : torn w far row x = false := by
  obtain ⟨k, h1, h2⟩ := h
  unfold torn
  rw [List.all_eq_false]
  exact ⟨k, h1, by simp [h2]⟩
theorem torn_true {w far : Int} {row : List Int} {x : Int} (h : ∀ k ∈ row, (x - k) / w ≠ (x + far - k) / w) : torn w far row x = true := by
  unfold torn
  rw [List.all_eq_true]
  exact fun k hk => decide_eq_true (h k hk)
/-- the first one -/
theorem find_first {w far : Int} {row : List Int} (h : ∃ x, 0 ≤ x ∧ x < w ∧ torn w far row x = true) : ∃ x, 0 ≤ x ∧ x < w ∧ (rgI 0 w).find? (torn w far row) = some x := by
  obtain ⟨x, h1, h2, h3⟩ := h
  cases e : (rgI 0 w).find? (torn w far row) with
  | none =>
    rw [List.find?_eq_none] at e
    exact absurd h3 (e x (mem_rgI.mpr ⟨h1, h2⟩))
  | some y =>
    have := mem_rgI.mp (List.mem_of_find?_eq_some e)
    exact ⟨y, this.1, this.2, rfl⟩
end NS
set_option Elab.async false
set_option linter.all false
set_option maxRecDepth 100000
set_option maxHeartbeats 1000000
namespace NS
open PySem L2 DL
theorem e_tupled : ∀ j : Nat, m_tupled j = T_ j
  | 0 => rfl
  | j + 1 => by
    show mDef 1 2 (mSeq (m_tupled_2 (m_tupled j)) (m_tupled_3 (m_tupled j))) = _
    rw [e_tupled j]
    rfl
theorem e_take : m_law_take = M_take := rfl
theorem e_box : m_law_box = M_box := rfl
theorem e_cells : m_law_cells = M_cells := rfl
theorem e_of : m_law_of = M_of := rfl
theorem e_same : ∀ j : Nat, m_law_same j = M_same j
  | 0 => rfl
  | j + 1 => by
    show mDef 2 4 (mSeq (m_law_same_4 (m_law_same j)) (mSeq (m_law_same_6 (m_law_same j)) (m_law_same_7 (m_law_same j)))) = _
    rw [e_same j]
    rfl
theorem e_pick : m_law_pick = M_pick := rfl
theorem e_asc : m_law_ascending = M_ascending := rfl
/-- either form of STARTS -/
def St (row : List Int) (d : D) : Prop := d = .tup (row.map D.int) ∨ d = .lst (row.map D.int)
theorem st_tup {row : List Int} {d : D} (h : St row d) (hl : row.length ≤ 1000) : m_tupled 4 [.dat d] [] = some (.dat (.tup (row.map D.int)), []) := by
  rw [e_tupled]
  rcases h with rfl | rfl
  · exact tup_ints 2 row hl
  · exact tup_lst 2 row hl
theorem reach_loop {x0 x1 x2 : R} : ∀ (l : List Int) (g : Int) (a b : R), ∃ a' b' : R, loop yes (tgPair 4 5) m_reach_of_2 (pairsD (l.map D.int) ((l.drop 1).map D.int)) [x0, x1, x2, .dat (.int g), a, b] [] = some (.nx [x0, x1, x2, .dat (.int (gaps g l)), a', b'] [])
  | [], g, a, b => ⟨a, b, loop_nil⟩
  | [_], g, a, b => ⟨a, b, loop_nil⟩
  | p :: q :: r, g, a, b => by
    obtain ⟨a', b', h⟩ := reach_loop (q :: r) (if q - p > g then q - p else g) (.dat (.int p)) (.dat (.int q))
    refine ⟨a', b', ?_⟩
    have e : gaps g (p :: q :: r) = gaps (if q - p > g then q - p else g) (q :: r) := by rw [gaps]
    rw [e, ← h]
    simp only [List.map_cons, List.drop_succ_cons, List.drop_zero, pairsD]
    refine loop_cons (δ1 := [x0, x1, x2, .dat (.int g), .dat (.int p), .dat (.int q)]) rfl ?_
    simp [m_reach_of_2]
theorem last_at (s : Int) (r : List Int) : atI ((s :: r).map D.int) (-1) = some (.int (lst s r)) := by
  have hl : 0 < (s :: r).length := by simp
  unfold atI ixN
  rw [List.length_map, if_neg (by decide), if_pos (by simp; omega)]
  simp only [Option.bind_some]
  have e : (-1 + ((s :: r).length : Int)).toNat = (s :: r).length - 1 := by omega
  rw [e, ints_get]
  have e2 : (s :: r)[(s :: r).length - 1]? = some (lst s r) := by
    rw [← List.getLast?_eq_getElem?]
    exact List.getLast?_eq_getLast (List.cons_ne_nil s r)
  rw [e2]
  rfl
theorem reach_ok {w s : Int} {r : List Int} {d : D} (hd : St (s :: r) d) (hl : (s :: r).length ≤ 1000) : m_reach_of [.dat (.int w), .dat d] [] = some (.dat (.int (w - wide w s r)), []) := by
  have q0 : m_reach_of_0 [.dat (.int w), .dat d, .no, .no, .no, .no] [] = some (.nx [.dat (.int w), .dat d, .dat (.tup ((s :: r).map D.int)), .no, .no, .no] []) := by
    simp [m_reach_of_0, st_tup hd hl]
  have q1 : m_reach_of_1 [.dat (.int w), .dat d, .dat (.tup ((s :: r).map D.int)), .no, .no, .no] [] = some (.nx [.dat (.int w), .dat d, .dat (.tup ((s :: r).map D.int)), .dat (.int (s + w - lst s r)), .no, .no] []) := by
    have e0 : atI ((s :: r).map D.int) 0 = some (.int s) := atI_int (i := 0) (by simp)
    have e1 := last_at s r
    generalize (s :: r).map D.int = l at e0 e1 ⊢
    simp [m_reach_of_1, e0, e1]
  obtain ⟨a', b', h⟩ := reach_loop (x0 := .dat (.int w)) (x1 := .dat d) (x2 := .dat (.tup ((s :: r).map D.int))) (s :: r) (s + w - lst s r) .no .no
  have q3 : m_reach_of_3 [.dat (.int w), .dat d, .dat (.tup ((s :: r).map D.int)), .dat (.int (s + w - lst s r)), .no, .no] [] = some (.nx [.dat (.int w), .dat d, .dat (.tup ((s :: r).map D.int)), .dat (.int (wide w s r)), a', b'] []) := by
    have e : cutD ((s :: r).map D.int) (some 1) none = ((s :: r).drop 1).map D.int := by
      rw [cut_ints]
      unfold cutI
      rw [show HT.sIx (s :: r).length 0 (some 1) = min 1 (s :: r).length from HT.sIx_nat _ _ 1, HT.sIx_none, Nat.min_eq_left (by simp)]
      rw [List.take_of_length_le (by rw [List.length_drop]; exact Nat.le_refl _)]
    have h' : loop yes (tgPair 4 5) m_reach_of_2 (pairsD ((s :: r).map D.int) (cutD ((s :: r).map D.int) (some 1) none)) [.dat (.int w), .dat d, .dat (.tup ((s :: r).map D.int)), .dat (.int (s + w - lst s r)), .no, .no] [] = some (.nx [.dat (.int w), .dat d, .dat (.tup ((s :: r).map D.int)), .dat (.int (wide w s r)), a', b'] []) := by
      rw [e]
      exact h
    generalize (s :: r).map D.int = l at h' ⊢
    simp [m_reach_of_3, h']
  generalize (s :: r).map D.int = l at q0 q1 q3
  simp [m_reach_of, q0, q1, q3, m_reach_of_4]
theorem torn_call {w x y k : Int} (hw : 0 < w) (hw2 : w < 1073741824) : m_is_torn [.dat (.tup [.int x, .int y]), .dat (.int w), .dat (.int k)] [] = some (.dat (.bl (decide ((x - k) / w ≠ (y - k) / w))), []) := by
  simp [m_is_torn, m_is_torn_0, atI, ixN, hw, hw2]
theorem find_head {p : Int → Bool} : ∀ {l : List Int} {x : Int}, l.find? p = some x → ∃ t, l.filter p = x :: t
  | [], x, h => by cases h
  | a :: l, x, h => by
    cases e : p a with
    | true =>
      rw [List.find?_cons_of_pos e] at h
      cases h
      exact ⟨l.filter p, List.filter_cons_of_pos e⟩
    | false =>
      rw [List.find?_cons_of_neg (by simp [e])] at h
      obtain ⟨t, ht⟩ := find_head h
      exact ⟨t, by rw [List.filter_cons_of_neg (by simp [e])]; exact ht⟩
theorem missed_by_ok {w s : Int} {r : List Int} {d : D} {x : Int} (hd : St (s :: r) d) (hl : (s :: r).length ≤ 1000) (hw : 0 < w) (hw2 : w ≤ 1000) (hx : (rgI 0 w).find? (torn w (w - wide w s r + 1) (s :: r)) = some x) :
    m_missed_by [.dat (.int w), .dat d] [] = some (.dat (.tup [.int x, .int (x + (w - wide w s r + 1))]), []) := by
  generalize hf : w - wide w s r + 1 = far at hx ⊢
  have q0 : m_missed_by_0 [.dat (.int w), .dat d, .no, .no, .no, .no, .no, .no] [] = some (.nx [.dat (.int w), .dat d, .dat (.tup ((s :: r).map D.int)), .dat (.int far), .no, .no, .no, .no] []) := by
    have e1 := st_tup hd hl
    have e2 := reach_ok (w := w) hd hl
    generalize (s :: r).map D.int = l at e1 ⊢
    simp [m_missed_by_0, e1, e2, hf]
  have hl2 : (rgI 0 w).length ≤ 100000 := by rw [rgI_len]; omega
  have q2 : m_missed_by_2 [.dat (.int w), .dat d, .dat (.tup ((s :: r).map D.int)), .dat (.int far), .no, .no, .no, .no] [] = some (.nx [.dat (.int w), .dat d, .dat (.tup ((s :: r).map D.int)), .dat (.int far), .dat (.lst ((rgI 0 w).map fun x => .tup [.int x, .int (x + far)])), .no, .no, .no] []) := by
    have e := lc_map (t := tgName 5) (me := m_missed_by_e1) (δ := [.dat (.int w), .dat d, .dat (.tup ((s :: r).map D.int)), .dat (.int far), .no, .no, .no, .no]) (μ := []) (g := fun d => match d with | .int x => .tup [.int x, .int (x + far)] | d => d) ((rgI 0 w).map D.int) (by rw [List.length_map]; exact hl2) fun d hd => by
      obtain ⟨n, _, rfl⟩ := List.mem_map.mp hd
      exact ⟨_, rfl, .dat (.tup [.int n, .int (n + far)]), by simp [m_missed_by_e1], rfl⟩
    rw [List.map_map] at e
    have l1 : -4611686018427387904 ≤ w := by omega
    have l2 : w < 4611686018427387904 := by omega
    generalize (s :: r).map D.int = l at e ⊢
    simp only [m_missed_by_2, mSet, mLc, mItR1, mCons, mNil, mVar, List.getElem?_cons_zero, froz, wipeR]
    simp only [show (-(2 ^ 62) : Int) ≤ w ∧ w < 2 ^ 62 from ⟨by omega, by omega⟩, and_self, if_true, rgD_ints]
    simp only [List.set_cons_succ, List.set_cons_zero, e, putR]
    rfl
  have q6 : m_missed_by_6 [.dat (.int w), .dat d, .dat (.tup ((s :: r).map D.int)), .dat (.int far), .dat (.lst ((rgI 0 w).map fun x => .tup [.int x, .int (x + far)])), .no, .no, .no] [] = some (.rt (.dat (.tup [.int x, .int (x + far)])) []) := by
    have hw3 : w < 1073741824 := by omega
    have inner : ∀ n : Int, m_missed_by_c4 [.dat (.int w), .dat d, .dat (.tup ((s :: r).map D.int)), .dat (.int far), .dat (.lst ((rgI 0 w).map fun x => .tup [.int x, .int (x + far)])), .no, .dat (.tup [.int n, .int (n + far)]), .no] [] = some (torn w far (s :: r) n, []) := by
      intro n
      generalize (.dat (.lst ((rgI 0 w).map fun x => D.tup [.int x, .int (x + far)])) : R) = pr
      have e := lc_map (t := tgName 7) (me := m_missed_by_e3) (δ := [.dat (.int w), .dat d, .dat (.tup ((s :: r).map D.int)), .dat (.int far), pr, .no, .dat (.tup [.int n, .int (n + far)]), .no]) (μ := []) (g := fun d => match d with | .int k => .bl (decide ((n - k) / w ≠ (n + far - k) / w)) | d => d) ((s :: r).map D.int) (by rw [List.length_map]; omega) fun d hd => by
        obtain ⟨k, _, rfl⟩ := List.mem_map.mp hd
        refine ⟨_, rfl, .dat (.bl (decide ((n - k) / w ≠ (n + far - k) / w))), ?_, rfl⟩
        have := torn_call (x := n) (y := n + far) (k := k) hw hw3
        simp only [m_missed_by_e3, mCall, mCons, mNil, mVar, List.set_cons_succ, List.set_cons_zero, List.getElem?_cons_zero, List.getElem?_cons_succ, froz, callX, cellsIn, this, plainR, if_true]
      rw [List.map_map] at e
      have e2 : blsOf ((s :: r).map ((fun d => match d with | .int k => D.bl (decide ((n - k) / w ≠ (n + far - k) / w)) | d => d) ∘ D.int)) = some ((s :: r).map fun k => decide ((n - k) / w ≠ (n + far - k) / w)) := blsOf_map' (fun k => decide ((n - k) / w ≠ (n + far - k) / w)) (s :: r)
      generalize (s :: r).map D.int = l at e ⊢
      simp only [m_missed_by_c4, mB, mCb, mCons, mNil, mLc, mIt, mItL, mItT, mVar, List.getElem?_cons_zero, List.getElem?_cons_succ, froz, sqOf, wipeR, List.set_cons_succ, List.set_cons_zero, e, fAll, lstOf, e2]
      unfold torn
      rw [List.all_map]
      rfl
    have e := lc_fil (t := tgName 6) (mt := m_missed_by_c4) (me := m_missed_by_e5) (δ := [.dat (.int w), .dat d, .dat (.tup ((s :: r).map D.int)), .dat (.int far), .dat (.lst ((rgI 0 w).map fun x => .tup [.int x, .int (x + far)])), .no, .no, .no]) (μ := []) (p := fun d => match d with | .tup [.int x, _] => torn w far (s :: r) x | _ => false) (g := id) ((rgI 0 w).map fun x => .tup [.int x, .int (x + far)]) [] (by rw [List.length_map]; simpa using hl2) fun d hd => by
      obtain ⟨n, _, rfl⟩ := List.mem_map.mp hd
      refine ⟨_, rfl, inner n, fun _ => ⟨.dat (.tup [.int n, .int (n + far)]), rfl, rfl⟩⟩
    obtain ⟨t, ht⟩ := find_head hx
    have e3 : (((rgI 0 w).map fun x => D.tup [.int x, .int (x + far)]).filter fun d => match d with | .tup [.int x, _] => torn w far (s :: r) x | _ => false) = (x :: t).map fun x => .tup [.int x, .int (x + far)] := by
      rw [List.filter_map, ← ht]
      rfl
    rw [e3, List.map_id, List.nil_append] at e
    simp only [m_missed_by_6, mRet, mOp, mLc, mIt, mItL, mVar, List.getElem?_cons_zero, List.getElem?_cons_succ, froz, sqOf, lstOf, Option.map_some, wipeR, List.set_cons_succ, List.set_cons_zero]
    rw [e]
    simp [atI, ixN]
  generalize (s :: r).map D.int = l at q0 q2 q6
  simp [m_missed_by, q0, q2, q6]
end NS
set_option Elab.async false
set_option linter.all false
set_option maxRecDepth 100000
set_option maxHeartbeats 2000000
namespace NS
open PySem L2 DL
theorem torn_empty (w far : Int) (row : List Int) (x : Int) : (row.filter fun k => decide ((x - k) / w = (x + far - k) / w)).isEmpty = torn w far row x := by
  unfold torn
  induction row with
  | nil => rfl
  | cons k r ih =>
    by_cases h : (x - k) / w = (x + far - k) / w
    · rw [List.filter_cons_of_pos (by simpa using h)]
      simp [h]
    · rw [List.filter_cons_of_neg (by simpa using h), ih]
      simp [h]
section
variable {w : Int} {row : List Int}
theorem missed_turn {far x : Int} {b : R} (hw : 0 < w) (hw2 : w < 1073741824) (hl : row.length ≤ 1000) : m_law_missed_3 [.dat (.int w), .dat (.tup (row.map D.int)), .dat (.int far), .dat (.int x), b] [] =
    if torn w far row x = true then some (.rt (.dat (.tup [.int x, .int (x + far)])) []) else some (.nx [.dat (.int w), .dat (.tup (row.map D.int)), .dat (.int far), .dat (.int x), b] []) := by
  have e := lc_fil (t := tgName 4) (mt := m_law_missed_c0) (me := m_law_missed_e1) (δ := [.dat (.int w), .dat (.tup (row.map D.int)), .dat (.int far), .dat (.int x), .no]) (μ := []) (p := fun d => match d with | .int k => decide ((x - k) / w = (x + far - k) / w) | _ => false) (g := id) (row.map D.int) [] (by simp; omega) fun d hd => by
    obtain ⟨k, _, rfl⟩ := List.mem_map.mp hd
    refine ⟨_, rfl, ?_, fun _ => ⟨.dat (.int k), rfl, rfl⟩⟩
    simp [m_law_missed_c0, hw, hw2]
  have e3 : ((row.map D.int).filter fun d => match d with | .int k => decide ((x - k) / w = (x + far - k) / w) | _ => false) = (row.filter fun k => decide ((x - k) / w = (x + far - k) / w)).map D.int := by
    rw [List.filter_map]
    rfl
  rw [e3, List.map_id, List.nil_append] at e
  have q := eq_nil false (row.filter fun k => decide ((x - k) / w = (x + far - k) / w)) []
  rw [torn_empty, Bool.false_xor] at q
  generalize hrow : row.map D.int = l at e ⊢
  have q3 : mB (mOp (fEq false) (mLc (mIt (mVar 1)) (tgName 4) m_law_missed_c0 m_law_missed_e1 [4]) (mLst mNil)) [.dat (.int w), .dat (.tup l), .dat (.int far), .dat (.int x), b] [] = some (torn w far row x, []) := by
    simp only [mB, mOp, mLc, mIt, mItL, mItT, mVar, List.getElem?_cons_zero, List.getElem?_cons_succ, froz, sqOf, lstOf, Option.map_none, wipeR, List.set_cons_succ, List.set_cons_zero, e, mLst, mNil, allD, List.length_nil, Nat.zero_le, if_true, q]
  cases ht : torn w far row x with
  | true =>
    rw [ht] at q3
    simp only [m_law_missed_3, mIfS, q3, if_true]
    simp [m_law_missed_2]
  | false =>
    rw [ht] at q3
    simp only [m_law_missed_3, mIfS, q3, mNx]
    simp
theorem missed_inner (hw : 0 < w) (hw2 : w < 1073741824) (hl : row.length ≤ 1000) {far : Int} {b : R} : ∀ (xs : List Int) (a : R),
    (xs.find? (torn w far row) = none → ∃ a', loop yes (tgName 3) m_law_missed_3 (xs.map D.int) [.dat (.int w), .dat (.tup (row.map D.int)), .dat (.int far), a, b] [] = some (.nx [.dat (.int w), .dat (.tup (row.map D.int)), .dat (.int far), a', b] [])) ∧
    (∀ x, xs.find? (torn w far row) = some x → loop yes (tgName 3) m_law_missed_3 (xs.map D.int) [.dat (.int w), .dat (.tup (row.map D.int)), .dat (.int far), a, b] [] = some (.rt (.dat (.tup [.int x, .int (x + far)])) []))
  | [], a => ⟨fun _ => ⟨a, loop_nil⟩, fun x h => by cases h⟩
  | y :: xs, a => by
    have ih := missed_inner hw hw2 hl (far := far) (b := b) xs (.dat (.int y))
    have t := missed_turn (w := w) (row := row) (far := far) (x := y) (b := b) hw hw2 hl
    cases ht : torn w far row y with
    | true =>
      rw [ht, if_pos rfl] at t
      refine ⟨fun h => ?_, fun x h => ?_⟩
      · rw [List.find?_cons_of_pos ht] at h
        cases h
      · rw [List.find?_cons_of_pos ht] at h
        cases h
        exact loop_ret rfl t
    | false =>
      rw [ht, if_neg Bool.false_ne_true] at t
      refine ⟨fun h => ?_, fun x h => ?_⟩
      · rw [List.find?_cons_of_neg (by simp [ht])] at h
        obtain ⟨a', q⟩ := ih.1 h
        exact ⟨a', (loop_cons rfl t).trans q⟩
      · rw [List.find?_cons_of_neg (by simp [ht])] at h
        exact (loop_cons rfl t).trans (ih.2 x h)
theorem missed_outer (hw : 0 < w) (hw2 : w ≤ 1000) (hl : row.length ≤ 1000) {b : R} {far x : Int} (hx : (rgI 0 w).find? (torn w far row) = some x) : ∀ (pre post : List Int) (f a : R), (∀ g ∈ pre, (rgI 0 w).find? (torn w g row) = none) →
    loop yes (tgName 2) m_law_missed_4 ((pre ++ far :: post).map D.int) [.dat (.int w), .dat (.tup (row.map D.int)), f, a, b] [] = some (.rt (.dat (.tup [.int x, .int (x + far)])) [])
  | [], post, f, a, _ => by
    have q := (missed_inner hw (by omega) hl (far := far) (b := b) (rgI 0 w) a).2 x hx
    refine loop_ret (δ1 := [.dat (.int w), .dat (.tup (row.map D.int)), .dat (.int far), a, b]) rfl ?_
    simp only [m_law_missed_4, mFor, mItR1, mCons, mNil, mVar, List.getElem?_cons_zero, froz]
    simp only [show (-(2 ^ 62) : Int) ≤ w ∧ w < 2 ^ 62 from ⟨by omega, by omega⟩, and_self, if_true, rgD_ints]
    exact q
  | g :: pre, post, f, a, h => by
    obtain ⟨a', q⟩ := (missed_inner hw (by omega) hl (far := g) (b := b) (rgI 0 w) a).1 (h g List.mem_cons_self)
    have ih := missed_outer hw hw2 hl (b := b) hx pre post (.dat (.int g)) a' fun g' hg => h g' (List.mem_cons_of_mem _ hg)
    refine (loop_cons (δ1 := [.dat (.int w), .dat (.tup (row.map D.int)), .dat (.int g), a, b]) rfl ?_).trans ih
    simp only [m_law_missed_4, mFor, mItR1, mCons, mNil, mVar, List.getElem?_cons_zero, froz]
    simp only [show (-(2 ^ 62) : Int) ≤ w ∧ w < 2 ^ 62 from ⟨by omega, by omega⟩, and_self, if_true, rgD_ints]
    exact q
end
theorem law_missed_ok {w s : Int} {r : List Int} {x : Int} (h : Row w s r) (hl : (s :: r).length ≤ 1000) (hw : 0 < w) (hw2 : w ≤ 1000) (hx : (rgI 0 w).find? (torn w (w - wide w s r + 1) (s :: r)) = some x) :
    m_law_missed [.dat (.int w), .dat (.tup ((s :: r).map D.int))] [] = some (.dat (.tup [.int x, .int (x + (w - wide w s r + 1))]), []) := by
  have wb := wide_bounds h
  have q := missed_outer hw hw2 hl (b := .no) hx (rgI 1 (w - wide w s r + 1)) (rgI (w - wide w s r + 1 + 1) (w + 1)) .no .no fun g hg => by
    obtain ⟨g1, g2⟩ := mem_rgI.mp hg
    rw [List.find?_eq_none]
    intro y hy
    obtain ⟨y1, y2⟩ := mem_rgI.mp hy
    rw [torn_false (covered h g1 (by omega) y1 y2)]
    exact Bool.false_ne_true
  rw [← rgI_split (by omega) (by omega)] at q
  have q5 : m_law_missed_5 [.dat (.int w), .dat (.tup ((s :: r).map D.int)), .no, .no, .no] [] = some (.rt (.dat (.tup [.int x, .int (x + (w - wide w s r + 1))])) []) := by
    generalize (s :: r).map D.int = l at q ⊢
    simp only [m_law_missed_5, mFor, mItR2, mCons, mNil, mVar, mC, mOp, fAdd, List.getElem?_cons_zero, froz]
    simp only [show (-(2 ^ 62) : Int) ≤ 1 ∧ (1 : Int) < 2 ^ 62 ∧ (-(2 ^ 62) : Int) ≤ w + 1 ∧ w + 1 < 2 ^ 62 from ⟨by omega, by omega, by omega, by omega⟩, and_self, if_true, rgD_ints]
    exact q
  generalize (s :: r).map D.int = l at q5 ⊢
  simp [m_law_missed, q5]
end NS
set_option Elab.async false
set_option linter.all false
set_option maxRecDepth 100000
set_option maxHeartbeats 2000000
namespace NS
open PySem L2 DL
theorem hand_ok : m_law_hand_right [] [] = some (.dat (.bl true), []) := by kernel_rfl
/-- the greatest reach of n of w starts -/
def best (w n : Int) : Int := w - (w + n - 1) / n
theorem best_1_1 : m_law_best [.dat (.int 1), .dat (.int 1)] [] = some (.dat (.int 0), []) := by kernel_rfl
theorem best_2_1 : m_law_best [.dat (.int 2), .dat (.int 1)] [] = some (.dat (.int 0), []) := by kernel_rfl
theorem best_2_2 : m_law_best [.dat (.int 2), .dat (.int 2)] [] = some (.dat (.int 1), []) := by kernel_rfl
theorem best_3_1 : m_law_best [.dat (.int 3), .dat (.int 1)] [] = some (.dat (.int 0), []) := by kernel_rfl
theorem best_3_2 : m_law_best [.dat (.int 3), .dat (.int 2)] [] = some (.dat (.int 1), []) := by kernel_rfl
theorem best_3_3 : m_law_best [.dat (.int 3), .dat (.int 3)] [] = some (.dat (.int 2), []) := by kernel_rfl
theorem best_4_1 : m_law_best [.dat (.int 4), .dat (.int 1)] [] = some (.dat (.int 0), []) := by kernel_rfl
theorem best_4_2 : m_law_best [.dat (.int 4), .dat (.int 2)] [] = some (.dat (.int 2), []) := by kernel_rfl
theorem best_4_3 : m_law_best [.dat (.int 4), .dat (.int 3)] [] = some (.dat (.int 2), []) := by kernel_rfl
theorem best_4_4 : m_law_best [.dat (.int 4), .dat (.int 4)] [] = some (.dat (.int 3), []) := by kernel_rfl
theorem best_5_1 : m_law_best [.dat (.int 5), .dat (.int 1)] [] = some (.dat (.int 0), []) := by kernel_rfl
theorem best_5_2 : m_law_best [.dat (.int 5), .dat (.int 2)] [] = some (.dat (.int 2), []) := by kernel_rfl
theorem best_5_3 : m_law_best [.dat (.int 5), .dat (.int 3)] [] = some (.dat (.int 3), []) := by kernel_rfl
theorem best_5_4 : m_law_best [.dat (.int 5), .dat (.int 4)] [] = some (.dat (.int 3), []) := by kernel_rfl
theorem best_5_5 : m_law_best [.dat (.int 5), .dat (.int 5)] [] = some (.dat (.int 4), []) := by kernel_rfl
theorem best_6_1 : m_law_best [.dat (.int 6), .dat (.int 1)] [] = some (.dat (.int 0), []) := by kernel_rfl
theorem best_6_2 : m_law_best [.dat (.int 6), .dat (.int 2)] [] = some (.dat (.int 3), []) := by kernel_rfl
theorem best_6_3 : m_law_best [.dat (.int 6), .dat (.int 3)] [] = some (.dat (.int 4), []) := by kernel_rfl
theorem best_6_4 : m_law_best [.dat (.int 6), .dat (.int 4)] [] = some (.dat (.int 4), []) := by kernel_rfl
theorem best_6_5 : m_law_best [.dat (.int 6), .dat (.int 5)] [] = some (.dat (.int 4), []) := by kernel_rfl
theorem best_6_6 : m_law_best [.dat (.int 6), .dat (.int 6)] [] = some (.dat (.int 5), []) := by kernel_rfl
theorem best_7_1 : m_law_best [.dat (.int 7), .dat (.int 1)] [] = some (.dat (.int 0), []) := by kernel_rfl
theorem best_7_2 : m_law_best [.dat (.int 7), .dat (.int 2)] [] = some (.dat (.int 3), []) := by kernel_rfl
theorem best_7_3 : m_law_best [.dat (.int 7), .dat (.int 3)] [] = some (.dat (.int 4), []) := by kernel_rfl
theorem best_7_4 : m_law_best [.dat (.int 7), .dat (.int 4)] [] = some (.dat (.int 5), []) := by kernel_rfl
theorem best_7_5 : m_law_best [.dat (.int 7), .dat (.int 5)] [] = some (.dat (.int 5), []) := by kernel_rfl
theorem best_7_6 : m_law_best [.dat (.int 7), .dat (.int 6)] [] = some (.dat (.int 5), []) := by kernel_rfl
theorem best_7_7 : m_law_best [.dat (.int 7), .dat (.int 7)] [] = some (.dat (.int 6), []) := by kernel_rfl
theorem best_8_1 : m_law_best [.dat (.int 8), .dat (.int 1)] [] = some (.dat (.int 0), []) := by kernel_rfl
theorem best_8_2 : m_law_best [.dat (.int 8), .dat (.int 2)] [] = some (.dat (.int 4), []) := by kernel_rfl
theorem best_8_3 : m_law_best [.dat (.int 8), .dat (.int 3)] [] = some (.dat (.int 5), []) := by kernel_rfl
theorem best_8_4 : m_law_best [.dat (.int 8), .dat (.int 4)] [] = some (.dat (.int 6), []) := by kernel_rfl
theorem best_8_5 : m_law_best [.dat (.int 8), .dat (.int 5)] [] = some (.dat (.int 6), []) := by kernel_rfl
theorem best_8_6 : m_law_best [.dat (.int 8), .dat (.int 6)] [] = some (.dat (.int 6), []) := by kernel_rfl
theorem best_8_7 : m_law_best [.dat (.int 8), .dat (.int 7)] [] = some (.dat (.int 6), []) := by kernel_rfl
theorem best_8_8 : m_law_best [.dat (.int 8), .dat (.int 8)] [] = some (.dat (.int 7), []) := by kernel_rfl
theorem best_ok {w n : Int} (h1 : 1 ≤ w) (h2 : w ≤ 8) (h3 : 1 ≤ n) (h4 : n ≤ w) : m_law_best [.dat (.int w), .dat (.int n)] [] = some (.dat (.int (best w n)), []) := by
  have hw : w = 1 ∨ w = 2 ∨ w = 3 ∨ w = 4 ∨ w = 5 ∨ w = 6 ∨ w = 7 ∨ w = 8 := by omega
  rcases hw with rfl | rfl | rfl | rfl | rfl | rfl | rfl | rfl
  · rcases (show n = 1 by omega) with rfl
    · exact best_1_1
  · rcases (show n = 1 ∨ n = 2 by omega) with rfl | rfl
    · exact best_2_1
    · exact best_2_2
  · rcases (show n = 1 ∨ n = 2 ∨ n = 3 by omega) with rfl | rfl | rfl
    · exact best_3_1
    · exact best_3_2
    · exact best_3_3
  · rcases (show n = 1 ∨ n = 2 ∨ n = 3 ∨ n = 4 by omega) with rfl | rfl | rfl | rfl
    · exact best_4_1
    · exact best_4_2
    · exact best_4_3
    · exact best_4_4
  · rcases (show n = 1 ∨ n = 2 ∨ n = 3 ∨ n = 4 ∨ n = 5 by omega) with rfl | rfl | rfl | rfl | rfl
    · exact best_5_1
    · exact best_5_2
    · exact best_5_3
    · exact best_5_4
    · exact best_5_5
  · rcases (show n = 1 ∨ n = 2 ∨ n = 3 ∨ n = 4 ∨ n = 5 ∨ n = 6 by omega) with rfl | rfl | rfl | rfl | rfl | rfl
    · exact best_6_1
    · exact best_6_2
    · exact best_6_3
    · exact best_6_4
    · exact best_6_5
    · exact best_6_6
  · rcases (show n = 1 ∨ n = 2 ∨ n = 3 ∨ n = 4 ∨ n = 5 ∨ n = 6 ∨ n = 7 by omega) with rfl | rfl | rfl | rfl | rfl | rfl | rfl
    · exact best_7_1
    · exact best_7_2
    · exact best_7_3
    · exact best_7_4
    · exact best_7_5
    · exact best_7_6
    · exact best_7_7
  · rcases (show n = 1 ∨ n = 2 ∨ n = 3 ∨ n = 4 ∨ n = 5 ∨ n = 6 ∨ n = 7 ∨ n = 8 by omega) with rfl | rfl | rfl | rfl | rfl | rfl | rfl | rfl
    · exact best_8_1
    · exact best_8_2
    · exact best_8_3
    · exact best_8_4
    · exact best_8_5
    · exact best_8_6
    · exact best_8_7
    · exact best_8_8
end NS
set_option Elab.async false
set_option linter.all false
set_option maxRecDepth 100000
set_option maxHeartbeats 2000000
namespace NS
open PySem L2 DL
theorem perm_map {α β : Type} {f : α → β} {l l' : List β} (h : l.Perm l') : ∀ m : List α, l' = m.map f → ∃ m' : List α, m'.Perm m ∧ l = m'.map f := by
  induction h with
  | nil =>
    intro m e
    exact ⟨m, .refl _, e⟩
  | cons x h ih =>
    intro m e
    cases m with
    | nil => cases e
    | cons a m =>
      rw [List.map_cons] at e
      injection e with e1 e2
      obtain ⟨m', q1, q2⟩ := ih m e2
      exact ⟨a :: m', .cons a q1, by rw [List.map_cons, ← e1, q2]⟩
  | swap x y l =>
    intro m e
    cases m with
    | nil => cases e
    | cons a m =>
      cases m with
      | nil => cases e
      | cons b m =>
        rw [List.map_cons, List.map_cons] at e
        injection e with e1 e2
        injection e2 with e2 e3
        exact ⟨b :: a :: m, .swap a b m, by rw [List.map_cons, List.map_cons, e1, e2, e3]⟩
  | trans h1 h2 ih1 ih2 =>
    intro m e
    obtain ⟨m', q1, q2⟩ := ih2 m e
    obtain ⟨m'', q3, q4⟩ := ih1 m' q2
    exact ⟨m'', q3.trans q1, q4⟩
/-- what is drawn: a width and starts -/
theorem draw_wide {b : List D} {c : Int} (hb : Bx c b) (hc : c < 1000000000) {t a2 a3 a4 a5 a6 : R} : ∃ (W : Int) (b' : List D), 1 ≤ W ∧ W ≤ 40 ∧ Bx (c + 3) b' ∧ m_law_right_2 [.cel 0, t, a2, a3, a4, a5, a6] [b] = some (.nx [.cel 0, t, .dat (.int W), a3, a4, a5, a6] [b']) := by
  obtain ⟨r1, b1, p1, p2, p3, p4⟩ := take_ok hb (by omega) (n := 12) (by omega) (by omega)
  obtain ⟨r2, b2, q1, q2, q3, q4⟩ := take_ok p3 (by omega) (n := 12) (by omega) (by omega)
  obtain ⟨d, b3, s1, s2, s3⟩ := of_ok q3 (by omega) (xs := [.int (1 + r1), .int (1 + r2), .int 40]) (by simp) (by simp)
  obtain ⟨W, hW, w1, w2⟩ : ∃ W : Int, d = .int W ∧ 1 ≤ W ∧ W ≤ 40 := by
    simp only [List.mem_cons, List.not_mem_nil, or_false] at s1
    rcases s1 with rfl | rfl | rfl
    · exact ⟨_, rfl, by omega, by omega⟩
    · exact ⟨_, rfl, by omega, by omega⟩
    · exact ⟨_, rfl, by omega, by omega⟩
  subst hW
  refine ⟨W, b3, w1, w2, by simpa [Int.add_assoc] using s2, ?_⟩
  rw [e_take.symm] at p4 q4
  rw [e_of.symm] at s3
  simp [m_law_right_2, p4, q4, s3]
theorem draw_row {b : List D} {c W : Int} (hb : Bx c b) (hc : c < 1000000) (h1 : 1 ≤ W) (h2 : W ≤ 40) {t a3 a4 a5 a6 : R} : ∃ (s : Int) (r : List Int) (ys b' : List D), Row W s r ∧ (s :: r).length ≤ 1000 ∧ Bx (c + 41) b' ∧
    m_law_right_3 [.cel 0, t, .dat (.int W), a3, a4, a5, a6] [b] = some (.nx [.cel 0, t, .dat (.int W), .dat (.lst ys), a4, a5, a6] [b']) ∧
    m_law_right_4 [.cel 0, t, .dat (.int W), .dat (.lst ys), a4, a5, a6] [b'] = some (.nx [.cel 0, t, .dat (.int W), .dat (.tup ((s :: r).map D.int)), a4, a5, a6] [b']) := by
  have hm : (if (5 : Int) < W then 5 else W) < 1073741824 := by split <;> omega
  have hm0 : 0 < (if (5 : Int) < W then 5 else W) := by split <;> omega
  obtain ⟨r1, b1, p1, p2, p3, p4⟩ := take_ok hb (by omega) (n := if (5 : Int) < W then 5 else W) hm0 hm
  have p2' : r1 < 5 := by split at p2 <;> omega
  have hlen : ((rgI 0 W).map D.int).length = W.toNat := by rw [List.length_map, rgI_len]; omega
  obtain ⟨ys, rest, b2, q1, q2, q3, q4⟩ := pick_ok p3 (by omega) (many := 1 + r1) (by omega) (xs := (rgI 0 W).map D.int) (by rw [hlen]; omega)
  obtain ⟨m', g1, g2⟩ := perm_map q3 (rgI 0 W) rfl
  obtain ⟨ns, rs, g3, g4, g5⟩ := List.map_eq_append_iff.mp g2.symm
  have hns : ns.length = ys.length := by rw [← g4, List.length_map]
  rw [hlen] at q2
  obtain ⟨ms, k1, k2, k3⟩ := asc_ok (ns := ns) (by omega)
  have nd : (ns ++ rs).Nodup := by rw [← g3]; exact g1.symm.nodup (rgI_nodup 0 W)
  have ndm : ms.Nodup := k1.symm.nodup (List.nodup_append.mp nd).1
  have mem : ∀ k ∈ ms, 0 ≤ k ∧ k < W := fun k hk => mem_rgI.mp (g1.mem_iff.mp (by rw [g3]; exact List.mem_append_left _ (k1.mem_iff.mp hk)))
  have hms : ms.length = min (1 + r1).toNat W.toNat := by rw [k1.length_eq, hns, q2]
  cases ms with
  | nil =>
    simp at hms
    omega
  | cons s r =>
    have asc : (s :: r).Pairwise (· < ·) := by
      refine (List.Pairwise.and k2 ndm).imp fun h => ?_
      have h1 := h.1
      have h2 := h.2
      omega
    refine ⟨s, r, ys, b2, ⟨asc, fun k hk => (mem k hk).1, fun k hk => (mem k hk).2⟩, by rw [hms]; omega, ?_, ?_⟩
    · obtain ⟨x, y, z, e1, e2, e3, e4⟩ := q1
      exact ⟨x, y, z, e1, e2, by rw [hlen] at e3; omega, e4⟩
    · rw [← e_take] at p4
      rw [← e_pick] at q4
      rw [← e_asc] at k3
      have ok : rgOk 0 W = true := decide_eq_true ⟨by omega, by omega, by omega, by omega, by omega⟩
      have l3 : m_law_right_3 [.cel 0, t, .dat (.int W), a3, a4, a5, a6] [b] = some (.nx [.cel 0, t, .dat (.int W), .dat (.lst ys), a4, a5, a6] [b2]) := by
        simp [m_law_right_3, p4, q4, ok, rgD_ints]
      have l4 : m_law_right_4 [.cel 0, t, .dat (.int W), .dat (.lst ys), a4, a5, a6] [b2] = some (.nx [.cel 0, t, .dat (.int W), .dat (.tup ((s :: r).map D.int)), a4, a5, a6] [b2]) := by
        rw [← g4]
        generalize (s :: r).map D.int = l at k3 ⊢
        simp [m_law_right_4, k3]
      exact ⟨l3, l4⟩
theorem turn_ok {b : List D} {c : Int} (hb : Bx c b) (hc : c < 100000) {t a2 a3 a4 a5 a6 : R} : ∃ (a2' a3' a4' a5' : R) (b' : List D), Bx (c + 44) b' ∧ m_law_right_b10 [.cel 0, t, a2, a3, a4, a5, a6] [b] = some (.nx [.cel 0, t, a2', a3', a4', a5', a6] [b']) := by
  obtain ⟨W, b1, w1, w2, h1, h2⟩ := draw_wide (t := t) (a2 := a2) (a3 := a3) (a4 := a4) (a5 := a5) (a6 := a6) hb (by omega)
  obtain ⟨s, r, ys, b2, hR, hl, h3, h4, h5⟩ := draw_row (t := t) (a3 := a3) (a4 := a4) (a5 := a5) (a6 := a6) h1 (by omega) w1 w2
  have wb := wide_bounds hR
  obtain ⟨x0, x1, x2, x3⟩ := missed hR
  obtain ⟨x, y1, y2, hx⟩ := find_first (w := W) (far := W - wide W s r + 1) (row := s :: r) ⟨x0, x1, x2, torn_true x3⟩
  have k5 := law_missed_ok hR hl (by omega) (by omega) hx
  have k6 := missed_by_ok (d := .tup ((s :: r).map D.int)) (.inl rfl) hl (by omega) (by omega) hx
  have k6' := missed_by_ok (d := .lst ((s :: r).map D.int)) (.inr rfl) hl (by omega) (by omega) hx
  have k7 := reach_ok (w := W) (d := .tup ((s :: r).map D.int)) (.inl rfl) hl
  have k7' := reach_ok (w := W) (d := .lst ((s :: r).map D.int)) (.inr rfl) hl
  generalize hfar : W - wide W s r + 1 = far at k5 k6 k6'
  have hfar' : W - wide W s r = far - 1 := by omega
  rw [hfar'] at k7 k7'
  generalize (s :: r).map D.int = l at h5 k5 k6 k6' k7 k7'
  have q5 : m_law_right_5 [.cel 0, t, .dat (.int W), .dat (.tup l), a4, a5, a6] [b2] = some (.nx [.cel 0, t, .dat (.int W), .dat (.tup l), .dat (.tup [.int x, .int (x + far)]), a5, a6] [b2]) := by
    simp [m_law_right_5, k5]
  have q6 : m_law_right_6 [.cel 0, t, .dat (.int W), .dat (.tup l), .dat (.tup [.int x, .int (x + far)]), a5, a6] [b2] = some (.nx [.cel 0, t, .dat (.int W), .dat (.tup l), .dat (.tup [.int x, .int (x + far)]), .dat (.lst [.tup [.int x, .int (x + far)], .tup [.int x, .int (x + far)]]), a6] [b2]) := by
    simp [m_law_right_6, k6, k6']
  have q7 : m_law_right_7 [.cel 0, t, .dat (.int W), .dat (.tup l), .dat (.tup [.int x, .int (x + far)]), .dat (.lst [.tup [.int x, .int (x + far)], .tup [.int x, .int (x + far)]]), a6] [b2] = some (.nx [.cel 0, t, .dat (.int W), .dat (.tup l), .dat (.tup [.int x, .int (x + far)]), .dat (.lst [.tup [.int x, .int (x + far)], .tup [.int x, .int (x + far)], .int (far - 1), .int (far - 1)]), a6] [b2]) := by
    simp [m_law_right_7, k7, k7']
  have q9 : m_law_right_9 [.cel 0, t, .dat (.int W), .dat (.tup l), .dat (.tup [.int x, .int (x + far)]), .dat (.lst [.tup [.int x, .int (x + far)], .tup [.int x, .int (x + far)], .int (far - 1), .int (far - 1)]), a6] [b2] = some (.nx [.cel 0, t, .dat (.int W), .dat (.tup l), .dat (.tup [.int x, .int (x + far)]), .dat (.lst [.tup [.int x, .int (x + far)], .tup [.int x, .int (x + far)], .int (far - 1), .int (far - 1)]), a6] [b2]) := by
    have e : x + far - x - 1 = far - 1 := by omega
    have sr := same_refl 5 (.lst [.tup [.int x, .int (x + far)], .tup [.int x, .int (x + far)], .int (far - 1), .int (far - 1)]) (by simp [okD])
    rw [← e_same] at sr
    have e4 : (List.replicate (2 : Int).toNat [D.int (far - 1)]).flatten = [.int (far - 1), .int (far - 1)] := rfl
    simp [m_law_right_9, atI, ixN, e, sr]
  refine ⟨.dat (.int W), .dat (.tup l), .dat (.tup [.int x, .int (x + far)]), .dat (.lst [.tup [.int x, .int (x + far)], .tup [.int x, .int (x + far)], .int (far - 1), .int (far - 1)]), b2, ?_, ?_⟩
  · obtain ⟨x, y, z, e1, e2, e3, e4⟩ := h3
    exact ⟨x, y, z, e1, e2, by omega, e4⟩
  · simp only [m_law_right_b10, mSeq, h2, h4, h5, q5, q6, q7, q9]
theorem turns_ok {a6 : R} : ∀ (its b : List D) (c : Int) (t a2 a3 a4 a5 : R), its.length ≤ 100 → Bx c b → c + 44 * its.length < 100000 → ∃ (t' a2' a3' a4' a5' : R) (b' : List D), Bx (c + 44 * its.length) b' ∧ loop yes (tgName 1) m_law_right_b10 its [.cel 0, t, a2, a3, a4, a5, a6] [b] = some (.nx [.cel 0, t', a2', a3', a4', a5', a6] [b'])
  | [], b, c, t, a2, a3, a4, a5, _, hb, _ => ⟨t, a2, a3, a4, a5, b, by simpa using hb, loop_nil⟩
  | i :: its, b, c, t, a2, a3, a4, a5, hl, hb, hc => by
    rw [List.length_cons] at hl hc
    obtain ⟨a2', a3', a4', a5', b1, h1, h2⟩ := turn_ok (t := .dat i) (a2 := a2) (a3 := a3) (a4 := a4) (a5 := a5) (a6 := a6) hb (by omega)
    obtain ⟨t'', a2'', a3'', a4'', a5'', b2, h3, h4⟩ := turns_ok (a6 := a6) its b1 (c + 44) (.dat i) a2' a3' a4' a5' (by omega) h1 (by omega)
    refine ⟨t'', a2'', a3'', a4'', a5'', b2, ?_, (loop_cons rfl h2).trans h4⟩
    rw [List.length_cons]
    have e : c + 44 * ((its.length + 1 : Nat) : Int) = c + 44 + 44 * (its.length : Int) := by omega
    rw [e]
    exact h3
theorem right_ok {b : List D} {c : Int} (hb : Bx c b) (hc : c < 1000) (hand : m_law_hand_right [] [] = some (.dat (.bl true), []))
    (hbest : ∀ w n : Int, 1 ≤ w → w ≤ 8 → 1 ≤ n → n ≤ w → m_law_best [.dat (.int w), .dat (.int n)] [] = some (.dat (.int (best w n)), [])) : ∃ b', m_law_right [.cel 0] [b] = some (.dat (.bl true), [b']) := by
  have q1 : m_law_right_1 [.cel 0, .no, .no, .no, .no, .no, .no] [b] = some (.nx [.cel 0, .no, .no, .no, .no, .no, .no] [b]) := by
    simp [m_law_right_1, hand]
  obtain ⟨t, a2, a3, a4, a5, b1, h1, h2⟩ := turns_ok (a6 := .no) (rgD 0 8) b c .no .no .no .no .no (by rw [rgD_len]; decide) hb (by rw [rgD_len]; omega)
  have q11 : m_law_right_11 [.cel 0, .no, .no, .no, .no, .no, .no] [b] = some (.nx [.cel 0, t, a2, a3, a4, a5, .no] [b1]) := by
    simp [m_law_right_11, h2]
  rw [rgD_len] at h1
  obtain ⟨r1, b2, p1, p2, p3, p4⟩ := take_ok h1 (by omega) (n := 8) (by omega) (by omega)
  obtain ⟨r2, b3, s1, s2, s3, s4⟩ := take_ok p3 (by omega) (n := 1 + r1) (by omega) (by omega)
  rw [← e_take] at p4 s4
  have hb := hbest (1 + r1) (1 + r2) (by omega) (by omega) (by omega) (by omega)
  have kb : m_best_reach [.dat (.int (1 + r1)), .dat (.int (1 + r2))] [] = some (.dat (.int (best (1 + r1) (1 + r2))), []) := by
    have l1 : 0 < 1 + r2 := by omega
    have l2 : 1 + r2 < 1073741824 := by omega
    simp [m_best_reach, m_best_reach_0, l1, l2, best]
  generalize best (1 + r1) (1 + r2) = v at hb kb
  have q12 : m_law_right_12 [.cel 0, t, a2, a3, a4, a5, .no] [b1] = some (.nx [.cel 0, t, .dat (.int (1 + r1)), a3, a4, a5, .no] [b2]) := by
    simp [m_law_right_12, p4]
  have q13 : m_law_right_13 [.cel 0, t, .dat (.int (1 + r1)), a3, a4, a5, .no] [b2] = some (.nx [.cel 0, t, .dat (.int (1 + r1)), a3, a4, a5, .dat (.int (1 + r2))] [b3]) := by
    simp [m_law_right_13, s4]
  have q14 : m_law_right_14 [.cel 0, t, .dat (.int (1 + r1)), a3, a4, a5, .dat (.int (1 + r2))] [b3] = some (.nx [.cel 0, t, .dat (.int (1 + r1)), a3, .dat (.int v), a5, .dat (.int (1 + r2))] [b3]) := by
    simp [m_law_right_14, hb]
  have q15 : m_law_right_15 [.cel 0, t, .dat (.int (1 + r1)), a3, .dat (.int v), a5, .dat (.int (1 + r2))] [b3] = some (.rt (.dat (.bl true)) [b3]) := by
    have sr := same_refl 5 (.lst [.int v, .int v]) (by simp [okD])
    rw [← e_same] at sr
    simp [m_law_right_15, kb, sr]
  refine ⟨b3, ?_⟩
  simp only [m_law_right, mDef, List.length_cons, List.length_nil, if_true, mSeq]
  simp [q1, q11, q12, q13, q14, q15]
theorem call1_eq {f : MF} {m : ME} {δ : Sl} {μ μ1 : Mu} {xs ys : List D} {r : R} (h1 : m δ μ = some (.fr xs, μ1)) (h2 : f [.cel 0] [xs] = some (r, [ys])) (h3 : plainR r = true) : mCall1 f m δ μ = some (r, μ1) := by
  simp only [mCall1, h1, h2, h3, if_true]
theorem e1_ok (hand : m_law_hand_right [] [] = some (.dat (.bl true), []))
    (hbest : ∀ w n : Int, 1 ≤ w → w ≤ 8 → 1 ≤ n → n ≤ w → m_law_best [.dat (.int w), .dat (.int n)] [] = some (.dat (.int (best w n)), [])) {x0 : R} {ms : List Int} {k : Nat} (hk : k ≤ 10) : m_law_e1 [x0, .dat (.lst (ms.map D.int)), .dat (.int (k : Int))] [] = some (.dat (.bl true), []) := by
  obtain ⟨b, hb, q⟩ := box_ok (ns := ms) (k := k) (by omega)
  rw [← e_box] at q
  obtain ⟨b', q2⟩ := right_ok hb (by omega) hand hbest
  generalize ms.map D.int = l at q ⊢
  unfold m_law_e1
  refine call1_eq ?_ q2 rfl
  simp [q]
theorem law_0_ok {ns ms : List Int} (h3 : m_law_cells [.dat (.scr ns), .dat (.int 3)] [] = some (.fr (ms.map D.int), [])) : m_law_0 [.dat (.scr ns), .no, .no] [] = some (.nx [.dat (.scr ns), .dat (.lst (ms.map D.int)), .no] []) := by
  generalize ms.map D.int = l at h3 ⊢
  simp [m_law_0, h3]
theorem law_lc (hand : m_law_hand_right [] [] = some (.dat (.bl true), []))
    (hbest : ∀ w n : Int, 1 ≤ w → w ≤ 8 → 1 ≤ n → n ≤ w → m_law_best [.dat (.int w), .dat (.int n)] [] = some (.dat (.int (best w n)), [])) {x0 : R} {ms : List Int} (h2 : ms.length ≤ 3) : lcLoop yes (tgName 2) mYes m_law_e1 [x0, .dat (.lst (ms.map D.int)), .no] (rgD 0 (ms.length : Int)) [] [] = some ((rgD 0 (ms.length : Int)).map fun _ => .bl true, []) :=
  lc_map (g := fun _ => .bl true) (rgD 0 (ms.length : Int)) (by rw [rgD_len]; omega) fun d hd => by
    rw [rgD_ints] at hd
    obtain ⟨n, hn1, rfl⟩ := List.mem_map.mp hd
    obtain ⟨n1, n2⟩ := mem_rgI.mp hn1
    obtain ⟨k, rfl⟩ : ∃ k : Nat, n = (k : Int) := ⟨n.toNat, by omega⟩
    exact ⟨[x0, .dat (.lst (ms.map D.int)), .dat (.int (k : Int))], rfl, .dat (.bl true), e1_ok hand hbest (by omega), rfl⟩
theorem all_true {α : Type} {m : ME} {δ : Sl} {μ μ1 : Mu} (l : List α) (h : m δ μ = some (.fr (l.map fun _ => .bl true), μ1)) : mRet (mCb fAll (mCons m mNil)) δ μ = some (.rt (.dat (.bl true)) μ1) := by
  have e2 : blsOf (l.map fun _ => D.bl true) = some (l.map fun _ => true) := blsOf_map' (fun _ => true) _
  simp only [mRet, mCb, mCons, mNil, h, froz, fAll, lstOf]
  rw [e2]
  simp
theorem itR1_eq {ms : MA} {δ : Sl} {μ μ1 : Mu} {n : Int} (h : ms δ μ = some ([.dat (.int n)], μ1)) (h0 : 0 ≤ n) (h3 : n ≤ 3) : mItR1 ms δ μ = some (rgD 0 n, yes, μ1) := by
  have hb : (-(2 ^ 62) : Int) ≤ n ∧ n < 2 ^ 62 := ⟨by omega, by omega⟩
  simp only [mItR1, h, hb, and_self, if_true]
theorem mLc_eq {mi : MI} {t : TGT} {mt : MT} {me : ME} {vs : List Nat} {δ : Sl} {μ μ1 μ2 : Mu} {xs ys : List D} {gd : Mu → Bool} (h : mi δ μ = some (xs, gd, μ1)) (h2 : lcLoop gd t mt me (wipeR δ vs) xs [] μ1 = some (ys, μ2)) : mLc mi t mt me vs δ μ = some (.fr ys, μ2) := by
  simp only [mLc, h, h2]
theorem len_eq {x0 : R} {l : List D} {n : Int} (h : (l.length : Int) = n) : mCons (mCb fLen (mCons (mVar 1) mNil)) mNil [x0, .dat (.lst l), .no] [] = some ([.dat (.int n)], []) := by
  simp only [mCb, mCons, mNil, mVar, List.getElem?_cons_zero, List.getElem?_cons_succ, froz, fLen, sqOf, lstOf, Option.map_some, Sq.all, h]
theorem ret_law {x0 : R} {l : List D} {n : Int} {f : ME} (h : (l.length : Int) = n) (h0 : 0 ≤ n) (h3 : n ≤ 3)
    (e : lcLoop yes (tgName 2) mYes f [x0, .dat (.lst l), .no] (rgD 0 n) [] [] = some ((rgD 0 n).map fun _ => .bl true, [])) :
    mRet (mCb fAll (mCons (mLc (mItR1 (mCons (mCb fLen (mCons (mVar 1) mNil)) mNil)) (tgName 2) mYes f [2]) mNil)) [x0, .dat (.lst l), .no] [] = some (.rt (.dat (.bl true)) []) :=
  all_true (rgD 0 n) (mLc_eq (itR1_eq (len_eq h) h0 h3) e)
theorem law_2_ok (hand : m_law_hand_right [] [] = some (.dat (.bl true), []))
    (hbest : ∀ w n : Int, 1 ≤ w → w ≤ 8 → 1 ≤ n → n ≤ w → m_law_best [.dat (.int w), .dat (.int n)] [] = some (.dat (.int (best w n)), [])) {x0 : R} {ms : List Int} (h2 : ms.length ≤ 3) : m_law_2 [x0, .dat (.lst (ms.map D.int)), .no] [] = some (.rt (.dat (.bl true)) []) := by
  have e := law_lc hand hbest (x0 := x0) h2
  have hlen : ((ms.map D.int).length : Int) = (ms.length : Int) := by rw [List.length_map]
  have h0 : (0 : Int) ≤ (ms.length : Int) := Int.natCast_nonneg _
  have h3 : (ms.length : Int) ≤ 3 := by omega
  unfold m_law_2
  generalize m_law_e1 = f at e ⊢
  generalize ms.map D.int = l at e hlen ⊢
  generalize (ms.length : Int) = n at e hlen h0 h3
  exact ret_law hlen h0 h3 e
theorem law_of (hand : m_law_hand_right [] [] = some (.dat (.bl true), []))
    (hbest : ∀ w n : Int, 1 ≤ w → w ≤ 8 → 1 ≤ n → n ≤ w → m_law_best [.dat (.int w), .dat (.int n)] [] = some (.dat (.int (best w n)), [])) : ∀ ns : List Int, ns.length ≤ 63 → m_law [.dat (.scr ns)] [] = some (.dat (.bl true), []) := by
  intro ns hn
  obtain ⟨ms, h1, h2, h3⟩ := cells_ok (ns := ns) (most := 3) (by omega) (by omega) hn
  rw [← e_cells] at h3
  have q0 := law_0_ok (ns := ns) (ms := ms) h3
  have q2 := law_2_ok hand hbest (x0 := .dat (.scr ns)) h2
  generalize ms.map D.int = l at q0 q2
  unfold m_law
  generalize m_law_0 = f0 at q0 ⊢
  generalize m_law_2 = f2 at q2 ⊢
  simp [q0, q2]
end NS
set_option Elab.async false
set_option linter.all false
set_option maxRecDepth 100000
set_option maxHeartbeats 4000000
namespace NS
open PySem PySem.Spec PyProof.Rows L2 DL
theorem law_true : ∀ ns : List Int, ns.length ≤ 63 → m_law [.dat (.scr ns)] [] = some (.dat (.bl true), []) :=
  law_of hand_ok fun w n a b c d => best_ok a b c d
theorem all_mk {l : PySem.W.OpenLaw} {w : World} {K : PySem.W.Frag} {h : Heap} {mg : Str → Option Value} {cl : Nat → Addr} {fa f1 f2 f3 f4 f5 f6 f7 f8 f9 f10 f11 f12 f13 f14 f15 f16 f17 f18 : Addr} (X : K.In h) (G : h.Ns mainGlobals mg) (hfa : mg "law" = some (.ref fa))
    {od1 an1 od2 an2 od3 an3 od4 an4 od5 an5 od6 an6 od7 an7 od8 an8 od9 an9 od10 an10 od11 an11 od12 an12 od13 an13 od14 an14 od15 an15 od16 an16 od17 an17 od18 an18 : Option Addr} {sl1 sl2 sl3 sl4 sl5 sl6 sl7 sl8 sl9 sl10 sl11 sl12 sl13 sl14 sl15 sl16 sl17 sl18 : Array (Option Value)} {oc1 kV1 dc1 pm1 cd1 ct1 oc2 kV2 dc2 pm2 cd2 ct2 oc3 kV3 dc3 pm3 cd3 ct3 oc4 kV4 dc4 pm4 cd4 ct4 oc5 kV5 dc5 pm5 cd5 ct5 oc6 kV6 dc6 pm6 cd6 ct6 oc7 kV7 dc7 pm7 cd7 ct7 oc8 kV8 dc8 pm8 cd8 ct8 oc9 kV9 dc9 pm9 cd9 ct9 oc10 kV10 dc10 pm10 cd10 ct10 oc11 kV11 dc11 pm11 cd11 ct11 oc12 kV12 dc12 pm12 cd12 ct12 oc13 kV13 dc13 pm13 cd13 ct13 oc14 kV14 dc14 pm14 cd14 ct14 oc15 kV15 dc15 pm15 cd15 ct15 oc16 kV16 dc16 pm16 cd16 ct16 oc17 kV17 dc17 pm17 cd17 ct17 oc18 kV18 dc18 pm18 cd18 ct18 : Value}
    (a1 : PySem.W.nsIn K mainGlobals "tupled" = some (some (.ref f1))) (l1 : K.lookup f1 = some ⟨oc1, od1, .func (PySem.W.fnOf "tupled" "tupled" (defArgs s_tupled) (defBody s_tupled) (defScope s_tupled) .none kV1 dc1 pm1 an1 cd1 ct1), sl1⟩) (c1 : PySem.W.codeIn K cd1 "tupled" = true) (k1 : PySem.W.keepIn K (.ref f1) = true)
    (a2 : PySem.W.nsIn K mainGlobals "is_torn" = some (some (.ref f2))) (l2 : K.lookup f2 = some ⟨oc2, od2, .func (PySem.W.fnOf "is_torn" "is_torn" (defArgs s_is_torn) (defBody s_is_torn) (defScope s_is_torn) .none kV2 dc2 pm2 an2 cd2 ct2), sl2⟩) (c2 : PySem.W.codeIn K cd2 "is_torn" = true) (k2 : PySem.W.keepIn K (.ref f2) = true)
    (a3 : PySem.W.nsIn K mainGlobals "reach_of" = some (some (.ref f3))) (l3 : K.lookup f3 = some ⟨oc3, od3, .func (PySem.W.fnOf "reach_of" "reach_of" (defArgs s_reach_of) (defBody s_reach_of) (defScope s_reach_of) .none kV3 dc3 pm3 an3 cd3 ct3), sl3⟩) (c3 : PySem.W.codeIn K cd3 "reach_of" = true) (k3 : PySem.W.keepIn K (.ref f3) = true)
    (a4 : PySem.W.nsIn K mainGlobals "missed_by" = some (some (.ref f4))) (l4 : K.lookup f4 = some ⟨oc4, od4, .func (PySem.W.fnOf "missed_by" "missed_by" (defArgs s_missed_by) (defBody s_missed_by) (defScope s_missed_by) .none kV4 dc4 pm4 an4 cd4 ct4), sl4⟩) (c4 : PySem.W.codeIn K cd4 "missed_by" = true) (k4 : PySem.W.keepIn K (.ref f4) = true)
    (a5 : PySem.W.nsIn K mainGlobals "best_reach" = some (some (.ref f5))) (l5 : K.lookup f5 = some ⟨oc5, od5, .func (PySem.W.fnOf "best_reach" "best_reach" (defArgs s_best_reach) (defBody s_best_reach) (defScope s_best_reach) .none kV5 dc5 pm5 an5 cd5 ct5), sl5⟩) (c5 : PySem.W.codeIn K cd5 "best_reach" = true) (k5 : PySem.W.keepIn K (.ref f5) = true)
    (a6 : PySem.W.nsIn K mainGlobals "_law_box" = some (some (.ref f6))) (l6 : K.lookup f6 = some ⟨oc6, od6, .func (PySem.W.fnOf "_law_box" "_law_box" (defArgs s_law_box) (defBody s_law_box) (defScope s_law_box) .none kV6 dc6 pm6 an6 cd6 ct6), sl6⟩) (c6 : PySem.W.codeIn K cd6 "_law_box" = true) (k6 : PySem.W.keepIn K (.ref f6) = true)
    (a7 : PySem.W.nsIn K mainGlobals "_law_take" = some (some (.ref f7))) (l7 : K.lookup f7 = some ⟨oc7, od7, .func (PySem.W.fnOf "_law_take" "_law_take" (defArgs s_law_take) (defBody s_law_take) (defScope s_law_take) .none kV7 dc7 pm7 an7 cd7 ct7), sl7⟩) (c7 : PySem.W.codeIn K cd7 "_law_take" = true) (k7 : PySem.W.keepIn K (.ref f7) = true)
    (a8 : PySem.W.nsIn K mainGlobals "_law_cells" = some (some (.ref f8))) (l8 : K.lookup f8 = some ⟨oc8, od8, .func (PySem.W.fnOf "_law_cells" "_law_cells" (defArgs s_law_cells) (defBody s_law_cells) (defScope s_law_cells) .none kV8 dc8 pm8 an8 cd8 ct8), sl8⟩) (c8 : PySem.W.codeIn K cd8 "_law_cells" = true) (k8 : PySem.W.keepIn K (.ref f8) = true)
    (a9 : PySem.W.nsIn K mainGlobals "_law_of" = some (some (.ref f9))) (l9 : K.lookup f9 = some ⟨oc9, od9, .func (PySem.W.fnOf "_law_of" "_law_of" (defArgs s_law_of) (defBody s_law_of) (defScope s_law_of) .none kV9 dc9 pm9 an9 cd9 ct9), sl9⟩) (c9 : PySem.W.codeIn K cd9 "_law_of" = true) (k9 : PySem.W.keepIn K (.ref f9) = true)
    (a10 : PySem.W.nsIn K mainGlobals "_law_same" = some (some (.ref f10))) (l10 : K.lookup f10 = some ⟨oc10, od10, .func (PySem.W.fnOf "_law_same" "_law_same" (defArgs s_law_same) (defBody s_law_same) (defScope s_law_same) .none kV10 dc10 pm10 an10 cd10 ct10), sl10⟩) (c10 : PySem.W.codeIn K cd10 "_law_same" = true) (k10 : PySem.W.keepIn K (.ref f10) = true)
    (a11 : PySem.W.nsIn K mainGlobals "_law_pick" = some (some (.ref f11))) (l11 : K.lookup f11 = some ⟨oc11, od11, .func (PySem.W.fnOf "_law_pick" "_law_pick" (defArgs s_law_pick) (defBody s_law_pick) (defScope s_law_pick) .none kV11 dc11 pm11 an11 cd11 ct11), sl11⟩) (c11 : PySem.W.codeIn K cd11 "_law_pick" = true) (k11 : PySem.W.keepIn K (.ref f11) = true)
    (a12 : PySem.W.nsIn K mainGlobals "_law_ascending" = some (some (.ref f12))) (l12 : K.lookup f12 = some ⟨oc12, od12, .func (PySem.W.fnOf "_law_ascending" "_law_ascending" (defArgs s_law_ascending) (defBody s_law_ascending) (defScope s_law_ascending) .none kV12 dc12 pm12 an12 cd12 ct12), sl12⟩) (c12 : PySem.W.codeIn K cd12 "_law_ascending" = true) (k12 : PySem.W.keepIn K (.ref f12) = true)
    (a13 : PySem.W.nsIn K mainGlobals "_law_subsets" = some (some (.ref f13))) (l13 : K.lookup f13 = some ⟨oc13, od13, .func (PySem.W.fnOf "_law_subsets" "_law_subsets" (defArgs s_law_subsets) (defBody s_law_subsets) (defScope s_law_subsets) .none kV13 dc13 pm13 an13 cd13 ct13), sl13⟩) (c13 : PySem.W.codeIn K cd13 "_law_subsets" = true) (k13 : PySem.W.keepIn K (.ref f13) = true)
    (a14 : PySem.W.nsIn K mainGlobals "_law_missed" = some (some (.ref f14))) (l14 : K.lookup f14 = some ⟨oc14, od14, .func (PySem.W.fnOf "_law_missed" "_law_missed" (defArgs s_law_missed) (defBody s_law_missed) (defScope s_law_missed) .none kV14 dc14 pm14 an14 cd14 ct14), sl14⟩) (c14 : PySem.W.codeIn K cd14 "_law_missed" = true) (k14 : PySem.W.keepIn K (.ref f14) = true)
    (a15 : PySem.W.nsIn K mainGlobals "_law_best" = some (some (.ref f15))) (l15 : K.lookup f15 = some ⟨oc15, od15, .func (PySem.W.fnOf "_law_best" "_law_best" (defArgs s_law_best) (defBody s_law_best) (defScope s_law_best) .none kV15 dc15 pm15 an15 cd15 ct15), sl15⟩) (c15 : PySem.W.codeIn K cd15 "_law_best" = true) (k15 : PySem.W.keepIn K (.ref f15) = true)
    (a16 : PySem.W.nsIn K mainGlobals "_law_hand_right" = some (some (.ref f16))) (l16 : K.lookup f16 = some ⟨oc16, od16, .func (PySem.W.fnOf "_law_hand_right" "_law_hand_right" (defArgs s_law_hand_right) (defBody s_law_hand_right) (defScope s_law_hand_right) .none kV16 dc16 pm16 an16 cd16 ct16), sl16⟩) (c16 : PySem.W.codeIn K cd16 "_law_hand_right" = true) (k16 : PySem.W.keepIn K (.ref f16) = true)
    (a17 : PySem.W.nsIn K mainGlobals "_law_right" = some (some (.ref f17))) (l17 : K.lookup f17 = some ⟨oc17, od17, .func (PySem.W.fnOf "_law_right" "_law_right" (defArgs s_law_right) (defBody s_law_right) (defScope s_law_right) .none kV17 dc17 pm17 an17 cd17 ct17), sl17⟩) (c17 : PySem.W.codeIn K cd17 "_law_right" = true) (k17 : PySem.W.keepIn K (.ref f17) = true)
    (a18 : PySem.W.nsIn K mainGlobals "law" = some (some (.ref f18))) (l18 : K.lookup f18 = some ⟨oc18, od18, .func (PySem.W.fnOf "law" "law" (defArgs s_law) (defBody s_law) (defScope s_law) .none kV18 dc18 pm18 an18 cd18 ct18), sl18⟩) (c18 : PySem.W.codeIn K cd18 "law" = true) (k18 : PySem.W.keepIn K (.ref f18) = true)
    (z0 : PySem.W.nsIn K mainGlobals "len" = some none)
    (z1 : PySem.W.nsIn K mainGlobals "abs" = some none)
    (z2 : PySem.W.nsIn K mainGlobals "int" = some none)
    (z3 : PySem.W.nsIn K mainGlobals "min" = some none)
    (z4 : PySem.W.nsIn K mainGlobals "max" = some none)
    (z5 : PySem.W.nsIn K mainGlobals "list" = some none)
    (z6 : PySem.W.nsIn K mainGlobals "tuple" = some none)
    (z7 : PySem.W.nsIn K mainGlobals "bool" = some none)
    (z8 : PySem.W.nsIn K mainGlobals "str" = some none)
    (z9 : PySem.W.nsIn K mainGlobals "range" = some none)
    (z10 : PySem.W.nsIn K mainGlobals "zip" = some none)
    (z11 : PySem.W.nsIn K mainGlobals "enumerate" = some none)
    (z12 : PySem.W.nsIn K mainGlobals "all" = some none)
    (z13 : PySem.W.nsIn K mainGlobals "any" = some none)
    (z14 : PySem.W.nsIn K mainGlobals "isinstance" = some none) :
    ∃ fd : FuncData, (∀ (s : Shared) (v : Value), BindsTo s fd ⟨[v], []⟩ [("_law_script", v)]) ∧ ∀ base : Heap, K.In base → base.Ns mainGlobals mg → FnOk l.prog w K mg base CX0 10 fa fd ["_law_script"] (spLaw K) := by
  have e := hfa.symm.trans (PySem.W.mg_of X G a18)
  cases e
  have B : Bt mg := ⟨PySem.W.mg_none_of X G z0, PySem.W.mg_none_of X G z1, PySem.W.mg_none_of X G z2, PySem.W.mg_none_of X G z3, PySem.W.mg_none_of X G z4, PySem.W.mg_none_of X G z5, PySem.W.mg_none_of X G z6, PySem.W.mg_none_of X G z7, PySem.W.mg_none_of X G z8, PySem.W.mg_none_of X G z9, PySem.W.mg_none_of X G z10, PySem.W.mg_none_of X G z11, PySem.W.mg_none_of X G z12, PySem.W.mg_none_of X G z13, PySem.W.mg_none_of X G z14⟩
  have F1 := fun_mk (st := s_tupled) l1 c1 k1
  have F2 := fun_mk (st := s_is_torn) l2 c2 k2
  have F3 := fun_mk (st := s_reach_of) l3 c3 k3
  have F4 := fun_mk (st := s_missed_by) l4 c4 k4
  have F5 := fun_mk (st := s_best_reach) l5 c5 k5
  have F6 := fun_mk (st := s_law_box) l6 c6 k6
  have F7 := fun_mk (st := s_law_take) l7 c7 k7
  have F8 := fun_mk (st := s_law_cells) l8 c8 k8
  have F9 := fun_mk (st := s_law_of) l9 c9 k9
  have F10 := fun_mk (st := s_law_same) l10 c10 k10
  have F11 := fun_mk (st := s_law_pick) l11 c11 k11
  have F12 := fun_mk (st := s_law_ascending) l12 c12 k12
  have F13 := fun_mk (st := s_law_subsets) l13 c13 k13
  have F14 := fun_mk (st := s_law_missed) l14 c14 k14
  have F15 := fun_mk (st := s_law_best) l15 c15 k15
  have F16 := fun_mk (st := s_law_hand_right) l16 c16 k16
  have F17 := fun_mk (st := s_law_right) l17 c17 k17
  have F18 := fun_mk (st := s_law) l18 c18 k18
  refine ⟨PySem.W.fnOf "law" "law" (defArgs s_law) (defBody s_law) (defScope s_law) .none kV18 dc18 pm18 an18 cd18 ct18, fun s v => .of_eq rfl, fun base _ _ => ?_⟩
  have S_tupled : FS l.prog w K mg base cl 5 "tupled" 1 (m_tupled 4) := fs_tupled F1 (PySem.W.mg_of X G a1) B
  have S_is_torn : FS l.prog w K mg base cl 1 "is_torn" 3 m_is_torn := fs_is_torn F2 (PySem.W.mg_of X G a2) B
  have S_reach_of : FS l.prog w K mg base cl 6 "reach_of" 2 m_reach_of := fs_reach_of F3 (PySem.W.mg_of X G a3) B S_tupled
  have K_reach_of_0 := fk_reach_of_0 (P := l.prog) (w := w) (base := base) (cl := cl) F3 (PySem.W.mg_of X G a3) B S_tupled
  have S_missed_by : FS l.prog w K mg base cl 7 "missed_by" 2 m_missed_by := fs_missed_by F4 (PySem.W.mg_of X G a4) B S_tupled S_is_torn S_reach_of
  have K_missed_by_0 := fk_missed_by_0 (P := l.prog) (w := w) (base := base) (cl := cl) F4 (PySem.W.mg_of X G a4) B S_tupled S_is_torn S_reach_of
  have S_best_reach : FS l.prog w K mg base cl 1 "best_reach" 2 m_best_reach := fs_best_reach F5 (PySem.W.mg_of X G a5) B
  have K_best_reach_0 := fk_best_reach_0 (P := l.prog) (w := w) (base := base) (cl := cl) F5 (PySem.W.mg_of X G a5) B
  have S_law_box : FS l.prog w K mg base cl 1 "_law_box" 2 m_law_box := fs_law_box F6 (PySem.W.mg_of X G a6) B
  have S_law_take : FS l.prog w K mg base cl 1 "_law_take" 2 m_law_take := fs_law_take F7 (PySem.W.mg_of X G a7) B
  have S_law_cells : FS l.prog w K mg base cl 1 "_law_cells" 2 m_law_cells := fs_law_cells F8 (PySem.W.mg_of X G a8) B
  have S_law_of : FS l.prog w K mg base cl 2 "_law_of" 2 m_law_of := fs_law_of F9 (PySem.W.mg_of X G a9) B S_law_take
  have S_law_same : FS l.prog w K mg base cl 6 "_law_same" 2 (m_law_same 5) := fs_law_same F10 (PySem.W.mg_of X G a10) B
  have S_law_pick : FS l.prog w K mg base cl 2 "_law_pick" 3 m_law_pick := fs_law_pick F11 (PySem.W.mg_of X G a11) B S_law_take
  have S_law_ascending : FS l.prog w K mg base cl 1 "_law_ascending" 1 m_law_ascending := fs_law_ascending F12 (PySem.W.mg_of X G a12) B
  have S_law_subsets : FS l.prog w K mg base cl 1 "_law_subsets" 1 m_law_subsets := fs_law_subsets F13 (PySem.W.mg_of X G a13) B
  have S_law_missed : FS l.prog w K mg base cl 1 "_law_missed" 2 m_law_missed := fs_law_missed F14 (PySem.W.mg_of X G a14) B
  have S_law_best : FS l.prog w K mg base cl 2 "_law_best" 2 m_law_best := fs_law_best F15 (PySem.W.mg_of X G a15) B S_law_subsets S_law_missed
  have S_law_hand_right : FS l.prog w K mg base cl 8 "_law_hand_right" 0 m_law_hand_right := fs_law_hand_right F16 (PySem.W.mg_of X G a16) B S_reach_of S_missed_by S_best_reach S_law_same
  have S_law_right : FS l.prog w K mg base cl 9 "_law_right" 1 m_law_right := fs_law_right F17 (PySem.W.mg_of X G a17) B S_reach_of S_missed_by S_best_reach S_law_take S_law_of S_law_same S_law_pick S_law_ascending S_law_missed S_law_best S_law_hand_right K_best_reach_0 K_missed_by_0 K_reach_of_0
  exact law_end (ok_law F18 B S_law_box S_law_cells S_law_right) law_true

end NS
open PySem PySem.W PyProof.Rows
set_option maxRecDepth 100000 in
set_option maxHeartbeats 0 in
theorem PySem.Challenge.cw_nearsame_k54_how_far_several_grids_reach_holds : PySem.Challenge.rw_nearsame_k54_how_far_several_grids_reach.Holds := by
  w_on; o_law; k_head; (case hw => w_witness2)
  k_fill
  refine DL.walk (l := PySem.Challenge.rw_nearsame_k54_how_far_several_grids_reach) (k := 10) (by decide) rfl rfl (fun w h Y => PySem.W.kIn_of Y) ?F
  case F =>
    intro w mg fa h KX G hmg
    refine' NS.all_mk (cl := fun _ => 0) KX G hmg ?a1 ?l1 ?c1 ?k1 ?a2 ?l2 ?c2 ?k2 ?a3 ?l3 ?c3 ?k3 ?a4 ?l4 ?c4 ?k4 ?a5 ?l5 ?c5 ?k5 ?a6 ?l6 ?c6 ?k6 ?a7 ?l7 ?c7 ?k7 ?a8 ?l8 ?c8 ?k8 ?a9 ?l9 ?c9 ?k9 ?a10 ?l10 ?c10 ?k10 ?a11 ?l11 ?c11 ?k11 ?a12 ?l12 ?c12 ?k12 ?a13 ?l13 ?c13 ?k13 ?a14 ?l14 ?c14 ?k14 ?a15 ?l15 ?c15 ?k15 ?a16 ?l16 ?c16 ?k16 ?a17 ?l17 ?c17 ?k17 ?a18 ?l18 ?c18 ?k18 ?z0 ?z1 ?z2 ?z3 ?z4 ?z5 ?z6 ?z7 ?z8 ?z9 ?z10 ?z11 ?z12 ?z13 ?z14
    (case a1 => k_is); (case l1 => k_is); (case c1 => k_is); (case k1 => k_is)
    (case a2 => k_is); (case l2 => k_is); (case c2 => k_is); (case k2 => k_is)
    (case a3 => k_is); (case l3 => k_is); (case c3 => k_is); (case k3 => k_is)
    (case a4 => k_is); (case l4 => k_is); (case c4 => k_is); (case k4 => k_is)
    (case a5 => k_is); (case l5 => k_is); (case c5 => k_is); (case k5 => k_is)
    (case a6 => k_is); (case l6 => k_is); (case c6 => k_is); (case k6 => k_is)
    (case a7 => k_is); (case l7 => k_is); (case c7 => k_is); (case k7 => k_is)
    (case a8 => k_is); (case l8 => k_is); (case c8 => k_is); (case k8 => k_is)
    (case a9 => k_is); (case l9 => k_is); (case c9 => k_is); (case k9 => k_is)
    (case a10 => k_is); (case l10 => k_is); (case c10 => k_is); (case k10 => k_is)
    (case a11 => k_is); (case l11 => k_is); (case c11 => k_is); (case k11 => k_is)
    (case a12 => k_is); (case l12 => k_is); (case c12 => k_is); (case k12 => k_is)
    (case a13 => k_is); (case l13 => k_is); (case c13 => k_is); (case k13 => k_is)
    (case a14 => k_is); (case l14 => k_is); (case c14 => k_is); (case k14 => k_is)
    (case a15 => k_is); (case l15 => k_is); (case c15 => k_is); (case k15 => k_is)
    (case a16 => k_is); (case l16 => k_is); (case c16 => k_is); (case k16 => k_is)
    (case a17 => k_is); (case l17 => k_is); (case c17 => k_is); (case k17 => k_is)
    (case a18 => k_is); (case l18 => k_is); (case c18 => k_is); (case k18 => k_is)
    (case z0 => k_is); (case z1 => k_is); (case z2 => k_is); (case z3 => k_is); (case z4 => k_is); (case z5 => k_is); (case z6 => k_is); (case z7 => k_is); (case z8 => k_is); (case z9 => k_is); (case z10 => k_is); (case z11 => k_is); (case z12 => k_is); (case z13 => k_is); (case z14 => k_is)
