import PyProof.Rows.All
import Wide.All
import OpenK.AllK
import Wide.FinOn
import HandS.ForMost
import HandS.Walk
import HandS.Flow
import HandS.TupAny
import HandS.IsInst
import HandS.Zip
import HandS.Conv
import HandS.Slots
import HandS.Defaults
import HandS.MakeKwOnly
import HandS.SlotsOwn
import HandS.ClsMeth
import HandS.Star
import HandS.Deep
import HandS.Style
import KE.KUnpack
import HandS.TupLe
import HandS.SortInts
import KE.GoesMore
import PyProof.EnumMake
import PySem.Challenge.RW_nearsame_k58_what_is_kept_by_each_rule
set_option Elab.async false
set_option linter.all false
set_option maxRecDepth 100000
set_option maxHeartbeats 1000000

namespace DL
open PySem L2

inductive D where
  | non | bl (b : Bool) | int (i : Int) | str (x : Str) | tup (xs : List D) | lst (xs : List D) | scr (xs : List Int) | ins (c : Nat) (xs : List D)
/-- what stands in a list, a dict: plain data, or another cell -/
inductive El where
  | d (x : D) | c (j : Nat)
/-- a cell: a list of plain data; a list of anything; a dict by ints and texts, by tuples of these -/
inductive Cel where
  | l (xs : List D) | n (es : List El) | dk (kvs : List (Key × El)) | dt (kvs : List (List Key × El))
instance : Coe (List D) Cel := ⟨Cel.l⟩
inductive R where
  | no | dat (d : D) | cel (k : Nat) | fr (xs : List D) | fc (c : Cel)
abbrev Mu := List Cel
abbrev Sl := List R
inductive Flo where
  | nx (δ : Sl) (μ : Mu) | rt (r : R) (μ : Mu) | bk (δ : Sl) (μ : Mu) | ct (δ : Sl) (μ : Mu)
abbrev ME := Sl → Mu → Option (R × Mu)
abbrev MT := Sl → Mu → Option (Bool × Mu)
abbrev MA := Sl → Mu → Option (List R × Mu)
abbrev MS := Sl → Mu → Option Flo

mutual
inductive Rep (K : PySem.W.Frag) (cl : Nat → Addr) (F : Hp) : V → D → Prop
  | non : Rep K cl F .non .non
  | bl (b : Bool) : Rep K cl F (.bl b) (.bl b)
  | int (i : Int) : Rep K cl F (.int i) (.int i)
  | str (x : Str) : Rep K cl F (.str x) (.str x)
  | tup {a : Addr} {vs : List V} {xs : List D} : SqT K F a vs → Reps K cl F vs xs → Rep K cl F (.ref a) (.tup xs)
  | lst {a : Addr} {vs : List V} {xs : List D} : F a = some (.lst vs) → Reps K cl F vs xs → Rep K cl F (.ref a) (.lst xs)
  | scr {a : Addr} {ns : List Int} : SqL K F a (ns.map V.int) → Rep K cl F (.ref a) (.scr ns)
  | ins {a dx : Addr} {c : Nat} {vs : List V} {xs : List D} : SlX.Slt F a (cl c) dx (vs.map some) → F a = some (SlX.SlO a (cl c) dx (vs.map some)) → Reps K cl F vs xs → Rep K cl F (.ref a) (.ins c xs)
inductive Reps (K : PySem.W.Frag) (cl : Nat → Addr) (F : Hp) : List V → List D → Prop
  | nil : Reps K cl F [] []
  | cons {v : V} {d : D} {vs : List V} {ds : List D} : Rep K cl F v d → Reps K cl F vs ds → Reps K cl F (v :: vs) (d :: ds)
end

theorem Same.sqT {K : PySem.W.Frag} {H H' : Hp} {a : Addr} {xs : List V} (e : Same H H') (h : SqT K H a xs) : SqT K H' a xs := by
  rcases h with (h | ⟨o, h⟩) | h
  · exact .inl (.inl (e _ _ h))
  · exact .inl (.inr ⟨o, e _ _ h⟩)
  · exact .inr h
theorem Same.slt {H H' : Hp} {a C dx : Addr} {vs : List (Option V)} (e : Same H H') (h : SlX.Slt H a C dx vs) : SlX.Slt H' a C dx vs := by
  rcases h with ⟨h1, h2⟩ | ⟨h1, h2⟩
  · exact .inl ⟨e _ _ h1, h2⟩
  · exact .inr ⟨e _ _ h1, e _ _ h2⟩
mutual
theorem Rep.mono {K : PySem.W.Frag} {cl : Nat → Addr} {F F' : Hp} (e : Same F F') : ∀ {v : V} {d : D}, Rep K cl F v d → Rep K cl F' v d
  | _, _, .non => .non
  | _, _, .bl b => .bl b
  | _, _, .int i => .int i
  | _, _, .str x => .str x
  | _, _, .tup h r => .tup (Same.sqT e h) (Reps.mono e r)
  | _, _, .lst h r => .lst (e _ _ h) (Reps.mono e r)
  | _, _, .scr h => .scr (e.seq h)
  | _, _, .ins h q r => .ins (Same.slt e h) (e _ _ q) (Reps.mono e r)
theorem Reps.mono {K : PySem.W.Frag} {cl : Nat → Addr} {F F' : Hp} (e : Same F F') : ∀ {vs : List V} {ds : List D}, Reps K cl F vs ds → Reps K cl F' vs ds
  | _, _, .nil => .nil
  | _, _, .cons r q => .cons (Rep.mono e r) (Reps.mono e q)
end
section
variable {K : PySem.W.Frag} {cl : Nat → Addr} {F F' F1 F2 H H0 H' H1 H2 : Hp} {α α' α1 α2 : List Addr} {μ μ' μ1 μ2 : Mu} {σ σ' : L2.St} {δ δ' : Sl} {v w x y : V} {vs us : List V} {d d' : D} {ds es : List D} {r r' : R}
theorem Reps.length : ∀ {vs : List V} {ds : List D}, Reps K cl F vs ds → vs.length = ds.length
  | _, _, .nil => rfl
  | _, _, .cons _ q => congrArg (· + 1) (Reps.length q)
theorem Reps.get : ∀ {vs : List V} {ds : List D} {i : Nat} {d : D}, Reps K cl F vs ds → ds[i]? = some d → ∃ v, vs[i]? = some v ∧ Rep K cl F v d
  | _, _, _, _, .nil, h => by simp at h
  | _, _, 0, _, .cons r _, h => by
    simp at h
    subst h
    exact ⟨_, rfl, r⟩
  | _, _, i + 1, _, .cons _ q, h => by
    obtain ⟨v, e, r⟩ := Reps.get (i := i) q (by simpa using h)
    exact ⟨v, by simpa using e, r⟩
theorem Reps.append : ∀ {vs us : List V} {ds es : List D}, Reps K cl F vs ds → Reps K cl F us es → Reps K cl F (vs ++ us) (ds ++ es)
  | _, _, _, _, .nil, q => q
  | _, _, _, _, .cons r q, s => .cons r (Reps.append q s)
theorem Reps.take : ∀ {vs : List V} {ds : List D} (n : Nat), Reps K cl F vs ds → Reps K cl F (vs.take n) (ds.take n)
  | _, _, 0, _ => .nil
  | _, _, _ + 1, .nil => .nil
  | _, _, n + 1, .cons r q => .cons r (Reps.take n q)
theorem Reps.drop : ∀ {vs : List V} {ds : List D} (n : Nat), Reps K cl F vs ds → Reps K cl F (vs.drop n) (ds.drop n)
  | _, _, 0, q => q
  | _, _, _ + 1, .nil => .nil
  | _, _, n + 1, .cons _ q => Reps.drop n q
theorem Reps.set : ∀ {vs : List V} {ds : List D} (n : Nat) {v : V} {d : D}, Rep K cl F v d → Reps K cl F vs ds → Reps K cl F (vs.set n v) (ds.set n d)
  | _, _, _, _, _, _, .nil => .nil
  | _, _, 0, _, _, r, .cons _ q => .cons r q
  | _, _, n + 1, _, _, r, .cons q s => .cons q (Reps.set n r s)
theorem Reps.flat (k : Nat) (q : Reps K cl F vs ds) : Reps K cl F (List.replicate k vs).flatten (List.replicate k ds).flatten := by
  induction k with
  | zero => exact .nil
  | succ k ih =>
    rw [List.replicate_succ, List.replicate_succ, List.flatten_cons, List.flatten_cons]
    exact q.append ih
theorem Reps.ints : ∀ (ns : List Int), Reps K cl F (ns.map V.int) (ns.map D.int)
  | [] => .nil
  | _ :: ns => .cons (.int _) (Reps.ints ns)
theorem Reps.of_ints : ∀ {vs : List V} {ns : List Int}, Reps K cl F vs (ns.map D.int) → vs = ns.map V.int
  | _, [], h => by
    cases h
    rfl
  | _, n :: ns, h => by
    cases h with
    | cons r q =>
      cases r
      rw [Reps.of_ints q]
      rfl


def ElR (K : PySem.W.Frag) (cl : Nat → Addr) (F : Hp) (α : List Addr) (v : V) : El → Prop
  | .d x => Rep K cl F v x
  | .c j => ∃ a : Addr, α[j]? = some a ∧ v = .ref a
inductive ElRs (K : PySem.W.Frag) (cl : Nat → Addr) (F : Hp) (α : List Addr) : List V → List El → Prop
  | nil : ElRs K cl F α [] []
  | cons {v : V} {e : El} {vs : List V} {es : List El} : ElR K cl F α v e → ElRs K cl F α vs es → ElRs K cl F α (v :: vs) (e :: es)
inductive KvRs {κ : Type} (K : PySem.W.Frag) (cl : Nat → Addr) (F : Hp) (α : List Addr) : List (κ × V) → List (κ × El) → Prop
  | nil : KvRs K cl F α [] []
  | cons {k : κ} {v : V} {e : El} {vs : List (κ × V)} {es : List (κ × El)} : ElR K cl F α v e → KvRs K cl F α vs es → KvRs K cl F α ((k, v) :: vs) ((k, e) :: es)
def CellOk (K : PySem.W.Frag) (cl : Nat → Addr) (F : Hp) (α : List Addr) (o : Option HO) : Cel → Prop
  | .l xs => ∃ vs, o = some (.lst vs) ∧ Reps K cl F vs xs
  | .n es => ∃ vs, o = some (.lst vs) ∧ ElRs K cl F α vs es
  | .dk kvs => ∃ us, o = some (.dK us) ∧ KvRs K cl F α us kvs
  | .dt kvs => ∃ us, o = some (.dT us) ∧ KvRs K cl F α us kvs
theorem ElR.mono {e : El} (sm : Same F F') (ex : ∃ x, α' = α ++ x) (h : ElR K cl F α v e) : ElR K cl F' α' v e := by
  cases e with
  | d x => exact Rep.mono sm h
  | c j =>
    obtain ⟨a, h1, h2⟩ := h
    obtain ⟨x, rfl⟩ := ex
    exact ⟨a, by rw [List.getElem?_append_left (List.getElem?_eq_some_iff.mp h1).1]; exact h1, h2⟩
theorem ElRs.mono (sm : Same F F') (ex : ∃ x, α' = α ++ x) : ∀ {vs : List V} {es : List El}, ElRs K cl F α vs es → ElRs K cl F' α' vs es
  | _, _, .nil => .nil
  | _, _, .cons r q => .cons (r.mono sm ex) (ElRs.mono sm ex q)
theorem KvRs.mono {κ : Type} (sm : Same F F') (ex : ∃ x, α' = α ++ x) : ∀ {vs : List (κ × V)} {es : List (κ × El)}, KvRs K cl F α vs es → KvRs K cl F' α' vs es
  | _, _, .nil => .nil
  | _, _, .cons r q => .cons (r.mono sm ex) (KvRs.mono sm ex q)
theorem CellOk.mono {o : Option HO} {c : Cel} (sm : Same F F') (ex : ∃ x, α' = α ++ x) (h : CellOk K cl F α o c) : CellOk K cl F' α' o c := by
  cases c with
  | l xs => exact ⟨h.choose, h.choose_spec.1, h.choose_spec.2.mono sm⟩
  | n es => exact ⟨h.choose, h.choose_spec.1, h.choose_spec.2.mono sm ex⟩
  | dk kvs => exact ⟨h.choose, h.choose_spec.1, h.choose_spec.2.mono sm ex⟩
  | dt kvs => exact ⟨h.choose, h.choose_spec.1, h.choose_spec.2.mono sm ex⟩
theorem CellOk.monoF {o : Option HO} {c : Cel} (sm : Same F F') (h : CellOk K cl F α o c) : CellOk K cl F' α o c := h.mono sm ⟨[], by simp⟩
theorem CellOk.some {o : Option HO} {c : Cel} (h : CellOk K cl F α o c) : ∃ u, o = Option.some u := by
  cases c with
  | l xs => exact ⟨_, h.choose_spec.1⟩
  | n es => exact ⟨_, h.choose_spec.1⟩
  | dk kvs => exact ⟨_, h.choose_spec.1⟩
  | dt kvs => exact ⟨_, h.choose_spec.1⟩
/-- the cells that it names are among the first n -/
def El.low (n : Nat) : El → Bool
  | .d _ => true
  | .c j => decide (j < n)
@[simp] def Cel.low (n : Nat) : Cel → Bool
  | .l _ => true
  | .n es => es.all (El.low n)
  | .dk kvs => kvs.all fun p => El.low n p.2
  | .dt kvs => kvs.all fun p => El.low n p.2
theorem ElR.cut {e : El} {x : List Addr} (h : ElR K cl F (α ++ x) v e) (q : El.low α.length e = true) : ElR K cl F α v e := by
  cases e with
  | d y => exact h
  | c j =>
    obtain ⟨a, h1, h2⟩ := h
    have hj : j < α.length := of_decide_eq_true q
    exact ⟨a, by rw [List.getElem?_append_left hj] at h1; exact h1, h2⟩
theorem ElRs.cut {x : List Addr} : ∀ {vs : List V} {es : List El}, ElRs K cl F (α ++ x) vs es → es.all (El.low α.length) = true → ElRs K cl F α vs es
  | _, _, .nil, _ => .nil
  | _, _, .cons r q, h => by
    rw [List.all_cons, Bool.and_eq_true] at h
    exact .cons (r.cut h.1) (ElRs.cut q h.2)
theorem KvRs.cut {κ : Type} {x : List Addr} : ∀ {vs : List (κ × V)} {es : List (κ × El)}, KvRs K cl F (α ++ x) vs es → es.all (fun p => El.low α.length p.2) = true → KvRs K cl F α vs es
  | _, _, .nil, _ => .nil
  | _, _, .cons r q, h => by
    rw [List.all_cons, Bool.and_eq_true] at h
    exact .cons (r.cut h.1) (KvRs.cut q h.2)
theorem CellOk.cut {o : Option HO} {c : Cel} {x : List Addr} (h : CellOk K cl F (α ++ x) o c) (q : c.low α.length = true) : CellOk K cl F α o c := by
  cases c with
  | l xs => exact h
  | n es => exact ⟨h.choose, h.choose_spec.1, h.choose_spec.2.cut q⟩
  | dk kvs => exact ⟨h.choose, h.choose_spec.1, h.choose_spec.2.cut q⟩
  | dt kvs => exact ⟨h.choose, h.choose_spec.1, h.choose_spec.2.cut q⟩
structure Conc (K : PySem.W.Frag) (cl : Nat → Addr) (F : Hp) (α : List Addr) (μ : Mu) (H : Hp) : Prop where
  sub : Same F H
  len : α.length = μ.length
  nd : α.Nodup
  cell : ∀ (k : Nat) (a : Addr) (c : Cel), α[k]? = some a → μ[k]? = some c → CellOk K cl F α (H a) c
  out : ∀ a, a ∈ α → F a = none
structure Evo (F : Hp) (α : List Addr) (H F' : Hp) (α' : List Addr) (H' : Hp) : Prop where
  ff : Same F F'
  ext : ∃ e, α' = α ++ e
  hh : ∀ a o, H a = some o → a ∉ α → H' a = some o
  dom : ∀ a, H' a = none → H a = none
  fre : ∀ a o, F a = none → F' a = some o → H a = none
  fra : ∀ a, a ∈ α' → a ∉ α → H a = none
theorem Evo.refl : Evo F α H F α H := ⟨Same.refl F, ⟨[], by simp⟩, fun _ _ h _ => h, fun _ h => h, fun _ _ h q => (by rw [h] at q; cases q), fun a h q => absurd h q⟩
theorem Evo.trans (a : Evo F α H F1 α1 H1) (b : Evo F1 α1 H1 F2 α2 H2) : Evo F α H F2 α2 H2 := by
  refine ⟨a.ff.trans b.ff, ?_, fun x o h q => b.hh x o (a.hh x o h q) fun z => ?_, fun x h => a.dom x (b.dom x h), fun x o h q => ?_, fun x h q => ?_⟩
  · obtain ⟨e, rfl⟩ := a.ext
    obtain ⟨e', rfl⟩ := b.ext
    exact ⟨e ++ e', by rw [List.append_assoc]⟩
  · have := a.fra x z q
    rw [h] at this
    cases this
  · cases e : F1 x with
    | none => exact a.dom x (b.fre x o e q)
    | some u => exact a.fre x u h e
  · by_cases z : x ∈ α1
    · exact a.fra x z q
    · exact a.dom x (b.fra x h z)
def RepR (K : PySem.W.Frag) (cl : Nat → Addr) (H0 F : Hp) (α : List Addr) (H : Hp) (v : V) : R → Prop
  | .no => False
  | .dat d => Rep K cl F v d
  | .cel k => ∃ a : Addr, α[k]? = some a ∧ v = .ref a
  | .fr xs => ∃ a vs, v = .ref a ∧ H0 a = none ∧ F a = none ∧ a ∉ α ∧ H a = some (.lst vs) ∧ Reps K cl F vs xs
  | .fc c => ∃ a, v = .ref a ∧ H0 a = none ∧ F a = none ∧ a ∉ α ∧ CellOk K cl F α (H a) c
theorem RepR.step (h : RepR K cl H0 F α H v r) (e : Evo F α H F' α' H') : RepR K cl H0 F' α' H' v r := by
  cases r with
  | no => exact h
  | dat d => exact Rep.mono e.ff h
  | cel k =>
    obtain ⟨a, h1, h2⟩ := h
    obtain ⟨x, rfl⟩ := e.ext
    exact ⟨a, by rw [List.getElem?_append_left (List.getElem?_eq_some_iff.mp h1).1]; exact h1, h2⟩
  | fr xs =>
    obtain ⟨a, vs, h1, h2, h3, h4, h5, h6⟩ := h
    refine ⟨a, vs, h1, h2, ?_, fun z => ?_, e.hh a _ h5 h4, h6.mono e.ff⟩
    · cases q : F' a with
      | none => rfl
      | some u =>
        have := e.fre a u h3 q
        rw [h5] at this
        cases this
    · have := e.fra a z h4
      rw [h5] at this
      cases this
  | fc c =>
    obtain ⟨a, h1, h2, h3, h4, h5⟩ := h
    obtain ⟨u, hu⟩ := h5.some
    refine ⟨a, h1, h2, ?_, fun z => ?_, ?_⟩
    · cases q : F' a with
      | none => rfl
      | some w =>
        have := e.fre a w h3 q
        rw [hu] at this
        cases this
    · have := e.fra a z h4
      rw [hu] at this
      cases this
    · rw [e.hh a u hu h4, ← hu]
      exact h5.mono e.ff e.ext
theorem RepR.back (h : RepR K cl H1 F α H v r) (k : ∀ a, H1 a = none → H0 a = none) : RepR K cl H0 F α H v r := by
  cases r with
  | no => exact h
  | dat d => exact h
  | cel k => exact h
  | fr xs =>
    obtain ⟨a, vs, h1, h2, h3⟩ := h
    exact ⟨a, vs, h1, k a h2, h3⟩
  | fc c =>
    obtain ⟨a, h1, h2, h3⟩ := h
    exact ⟨a, h1, k a h2, h3⟩
def EnvOk (K : PySem.W.Frag) (cl : Nat → Addr) (F : Hp) (α : List Addr) (σ : L2.St) (δ : Sl) : Prop :=
  δ.length = σ.length ∧ (∀ (i : Nat) (d : D), δ[i]? = some (.dat d) → ∃ v, σ[i]? = some (some v) ∧ Rep K cl F v d) ∧ ∀ (i k : Nat), δ[i]? = some (.cel k) → ∃ a, α[k]? = some a ∧ σ[i]? = some (some (.ref a))
theorem EnvOk.step (h : EnvOk K cl F α σ δ) (e : Evo F α H F' α' H') : EnvOk K cl F' α' σ δ := by
  refine ⟨h.1, fun i d q => ?_, fun i k q => ?_⟩
  · obtain ⟨v, h1, h2⟩ := h.2.1 i d q
    exact ⟨v, h1, h2.mono e.ff⟩
  · obtain ⟨a, h1, h2⟩ := h.2.2 i k q
    obtain ⟨x, rfl⟩ := e.ext
    exact ⟨a, by rw [List.getElem?_append_left (List.getElem?_eq_some_iff.mp h1).1]; exact h1, h2⟩
/-- a plain value stored into a slot -/
theorem EnvOk.put (h : EnvOk K cl F α σ δ) (i : Nat) (hv : Rep K cl F v d) : EnvOk K cl F α (σ.set i (some v)) (δ.set i (.dat d)) := by
  refine ⟨by simp [h.1], fun j d' q => ?_, fun j k q => ?_⟩
  · by_cases hj : i = j
    · subst hj
      have hi : i < δ.length := by
        have := (List.getElem?_eq_some_iff.mp q).1
        simpa using this
      rw [List.getElem?_set_self hi] at q
      cases q
      exact ⟨v, List.getElem?_set_self (by rw [← h.1]; exact hi), hv⟩
    · rw [List.getElem?_set_ne hj] at q
      rw [List.getElem?_set_ne hj]
      exact h.2.1 j d' q
  · by_cases hj : i = j
    · subst hj
      have hi : i < δ.length := by
        have := (List.getElem?_eq_some_iff.mp q).1
        simpa using this
      rw [List.getElem?_set_self hi] at q
      cases q
    · rw [List.getElem?_set_ne hj] at q
      rw [List.getElem?_set_ne hj]
      exact h.2.2 j k q
theorem EnvOk.putC (h : EnvOk K cl F α σ δ) (i : Nat) {k : Nat} {a : Addr} (hv : α[k]? = some a) : EnvOk K cl F α (σ.set i (some (.ref a))) (δ.set i (.cel k)) := by
  refine ⟨by simp [h.1], fun j d' q => ?_, fun j k' q => ?_⟩
  · by_cases hj : i = j
    · subst hj
      have hi : i < δ.length := by
        have := (List.getElem?_eq_some_iff.mp q).1
        simpa using this
      rw [List.getElem?_set_self hi] at q
      cases q
    · rw [List.getElem?_set_ne hj] at q
      rw [List.getElem?_set_ne hj]
      exact h.2.1 j d' q
  · by_cases hj : i = j
    · subst hj
      have hi : i < δ.length := by
        have := (List.getElem?_eq_some_iff.mp q).1
        simpa using this
      rw [List.getElem?_set_self hi] at q
      cases q
      exact ⟨a, hv, List.getElem?_set_self (by rw [← h.1]; exact hi)⟩
    · rw [List.getElem?_set_ne hj] at q
      rw [List.getElem?_set_ne hj]
      exact h.2.2 j k' q


theorem upd_some_ne {H : Hp} {a b : Addr} {o u : HO} (h : upd H a o b = some u) (q : b ≠ a) : H b = some u := by
  rw [upd_ne q] at h
  exact h
theorem same_upd {H : Hp} {p : Addr} {o : HO} (h : H p = none) : Same H (upd H p o) := fun b x e => by
  rw [upd_ne (ne_of_none e h)]
  exact e
@[simp] def froz : R → R
  | .fr xs => .dat (.lst xs)
  | r => r
@[simp] def toD : R → Option D
  | .dat d => some d
  | .fr xs => some (.lst xs)
  | _ => none
theorem freeze {F0 : Hp} {α0 : List Addr} (e : Evo F0 α0 H0 F α H) (c : Conc K cl F α μ H) (h : RepR K cl H0 F α H v r) :
    ∃ F', Evo F0 α0 H0 F' α H ∧ Conc K cl F' α μ H ∧ RepR K cl H0 F' α H v (froz r) := by
  cases r with
  | no => exact ⟨F, e, c, h⟩
  | dat d => exact ⟨F, e, c, h⟩
  | cel k => exact ⟨F, e, c, h⟩
  | fc c' => exact ⟨F, e, c, h⟩
  | fr xs =>
    obtain ⟨a, vs, h1, h2, h3, h4, h5, h6⟩ := h
    have sm : Same F (upd F a (.lst vs)) := same_upd h3
    refine ⟨upd F a (.lst vs), ⟨e.ff.trans sm, e.ext, e.hh, e.dom, fun b o hb hq => ?_, e.fra⟩, ⟨fun b o hb => ?_, c.len, c.nd, fun k b ys h1 h2 => ?_, fun b hb => ?_⟩, ?_⟩
    · by_cases z : b = a
      · rw [z]
        exact h2
      · exact e.fre b o hb (upd_some_ne hq z)
    · by_cases z : b = a
      · subst z
        rw [upd_same] at hb
        cases hb
        exact h5
      · exact c.sub b o (upd_some_ne hb z)
    · exact (c.cell k b ys h1 h2).monoF sm
    · rw [upd_ne (show b ≠ a from fun z => h4 (by rw [← z]; exact hb))]
      exact c.out b hb
    · show Rep K cl _ v _
      rw [h1]
      exact .lst upd_same (h6.mono sm)
theorem froz_dat (h : toD r = some d) : froz r = .dat d := by
  cases r with
  | no => cases h
  | dat d' =>
    cases h
    rfl
  | cel k => cases h
  | fc c => cases h
  | fr xs =>
    cases h
    rfl
/-- a new frozen object -/
theorem Conc.new {p : Addr} {o : HO} (c : Conc K cl F α μ H) (hp : H p = none) : Evo F α H (upd F p o) α (upd H p o) ∧ Conc K cl (upd F p o) α μ (upd H p o) := by
  have fp : F p = none := by
    cases e : F p with
    | none => rfl
    | some u =>
      rw [c.sub p u e] at hp
      cases hp
  have pa : ∀ a, a ∈ α → a ≠ p := fun a ha z => by
    subst z
    obtain ⟨k, hk, ek⟩ := List.mem_iff_getElem.mp ha
    have hk2 : k < μ.length := by rw [← c.len]; exact hk
    obtain ⟨u, q⟩ := (c.cell k a μ[k] (by rw [List.getElem?_eq_getElem hk, ek]) (List.getElem?_eq_getElem hk2)).some
    rw [hp] at q
    cases q
  have sm : Same F (upd F p o) := same_upd fp
  refine ⟨⟨sm, ⟨[], by simp⟩, fun a u h _ => ?_, fun a h => ?_, fun a u h q => ?_, fun a h q => absurd h q⟩, ⟨fun a u h => ?_, c.len, c.nd, fun k a xs h1 h2 => ?_, fun a h => ?_⟩⟩
  · rw [upd_ne (ne_of_none h hp)]
    exact h
  · by_cases z : a = p
    · rw [z]
      exact hp
    · rw [upd_ne z] at h
      exact h
  · by_cases z : a = p
    · rw [z]
      exact hp
    · have := upd_some_ne q z
      rw [h] at this
      cases this
  · by_cases z : a = p
    · subst z
      rw [upd_same] at h
      rw [upd_same]
      exact h
    · rw [upd_ne z]
      exact c.sub a u (upd_some_ne h z)
  · have q := c.cell k a xs h1 h2
    obtain ⟨u, q1⟩ := q.some
    rw [upd_ne (ne_of_none q1 hp)]
    exact q.monoF sm
  · rw [upd_ne (pa a h)]
    exact c.out a h
/-- a new list, not frozen -/
theorem Conc.newL {p : Addr} (c : Conc K cl F α μ H) (hp : H p = none) (q : Reps K cl F vs ds) : Evo F α H F α (upd H p (.lst vs)) ∧ Conc K cl F α μ (upd H p (.lst vs)) ∧ RepR K cl H F α (upd H p (.lst vs)) (.ref p) (.fr ds) := by
  have fp : F p = none := by
    cases e : F p with
    | none => rfl
    | some u =>
      rw [c.sub p u e] at hp
      cases hp
  have pa : p ∉ α := fun ha => by
    obtain ⟨k, hk, ek⟩ := List.mem_iff_getElem.mp ha
    have hk2 : k < μ.length := by rw [← c.len]; exact hk
    obtain ⟨u, q⟩ := (c.cell k p μ[k] (by rw [List.getElem?_eq_getElem hk, ek]) (List.getElem?_eq_getElem hk2)).some
    rw [hp] at q
    cases q
  refine ⟨⟨Same.refl F, ⟨[], by simp⟩, fun a u h _ => ?_, fun a h => ?_, fun a u h q => (by rw [h] at q; cases q), fun a h q => absurd h q⟩, ⟨fun a u h => ?_, c.len, c.nd, fun k a xs h1 h2 => ?_, c.out⟩, ⟨p, vs, rfl, hp, fp, pa, upd_same, q⟩⟩
  · rw [upd_ne (ne_of_none h hp)]
    exact h
  · by_cases z : a = p
    · rw [z]
      exact hp
    · rw [upd_ne z] at h
      exact h
  · rw [upd_ne (ne_of_none (c.sub a u h) hp)]
    exact c.sub a u h
  · have q := c.cell k a xs h1 h2
    obtain ⟨u, q1⟩ := q.some
    rw [upd_ne (ne_of_none q1 hp)]
    exact q
end


def tm (K : PySem.W.Frag) (cl : Nat → Addr) (m : ME) : TE := fun σ H Q => ∃ F α δ μ r μ', Conc K cl F α μ H ∧ EnvOk K cl F α σ δ ∧ m δ μ = some (r, μ') ∧
  ∀ v F' H', Evo F α H F' α H' → Conc K cl F' α μ' H' → RepR K cl H F' α H' v r → Q v H'
def tmt (K : PySem.W.Frag) (cl : Nat → Addr) (m : MT) : TT := fun σ H Q => ∃ F α δ μ b μ', Conc K cl F α μ H ∧ EnvOk K cl F α σ δ ∧ m δ μ = some (b, μ') ∧
  ∀ F' H', Evo F α H F' α H' → Conc K cl F' α μ' H' → Q b H'
def ArgR (K : PySem.W.Frag) (cl : Nat → Addr) (F : Hp) (α : List Addr) (v : V) : R → Prop
  | .dat d => Rep K cl F v d
  | .cel k => ∃ a : Addr, α[k]? = some a ∧ v = .ref a
  | _ => False
inductive ArgRs (K : PySem.W.Frag) (cl : Nat → Addr) (F : Hp) (α : List Addr) : List V → List R → Prop
  | nil : ArgRs K cl F α [] []
  | cons {v : V} {r : R} {vs : List V} {rs : List R} : ArgR K cl F α v r → ArgRs K cl F α vs rs → ArgRs K cl F α (v :: vs) (r :: rs)
def tma (K : PySem.W.Frag) (cl : Nat → Addr) (m : MA) : TA := fun σ H Q => ∃ F α δ μ rs μ', Conc K cl F α μ H ∧ EnvOk K cl F α σ δ ∧ m δ μ = some (rs, μ') ∧
  ∀ vs F' H', Evo F α H F' α H' → Conc K cl F' α μ' H' → ArgRs K cl F' α vs rs → Q vs H'
def EndOk (K : PySem.W.Frag) (cl : Nat → Addr) (F : Hp) (α : List Addr) (H : Hp) (E : Ends) : Flo → Prop
  | .nx δ μ => ∀ F' α' σ' H', Evo F α H F' α' H' → Conc K cl F' α' μ H' → EnvOk K cl F' α' σ' δ → E.nx σ' H'
  | .bk δ μ => ∀ F' α' σ' H', Evo F α H F' α' H' → Conc K cl F' α' μ H' → EnvOk K cl F' α' σ' δ → E.bk σ' H'
  | .ct δ μ => ∀ F' α' σ' H', Evo F α H F' α' H' → Conc K cl F' α' μ H' → EnvOk K cl F' α' σ' δ → E.ct σ' H'
  | .rt r μ => ∀ v F' α' H', Evo F α H F' α' H' → Conc K cl F' α' μ H' → RepR K cl H F' α' H' v r → E.rt v H'
def tms (K : PySem.W.Frag) (cl : Nat → Addr) (m : MS) : TS := fun E σ H => ∃ F α δ μ fl, Conc K cl F α μ H ∧ EnvOk K cl F α σ δ ∧ m δ μ = some fl ∧ EndOk K cl F α H E fl
abbrev SE (X : Cx) (cl : Nat → Addr) (e : Expr) (m : ME) : Prop := PE X e (tm X.K cl m)
abbrev ST (X : Cx) (cl : Nat → Addr) (e : Expr) (m : MT) : Prop := PT X e (tmt X.K cl m)
abbrev SA (X : Cx) (cl : Nat → Addr) (es : List Expr) (m : MA) : Prop := PA X es (tma X.K cl m)
abbrev SS (X : Cx) (cl : Nat → Addr) (st : Stmt) (m : MS) : Prop := PS X st (tms X.K cl m)
abbrev SSs (X : Cx) (cl : Nat → Addr) (sts : List Stmt) (m : MS) : Prop := PSs X sts (tms X.K cl m)
theorem PE.weak {X : Cx} {e : Expr} {t t' : TE} (h : PE X e t) (k : ∀ σ H Q, t' σ H Q → t σ H Q) : PE X e t' := ⟨fun pins s σ H Q I hw => h.run pins s σ H Q I (k σ H Q hw)⟩
theorem PT.weak {X : Cx} {e : Expr} {t t' : TT} (h : PT X e t) (k : ∀ σ H Q, t' σ H Q → t σ H Q) : PT X e t' := ⟨fun pins s σ H Q I hw => h.run pins s σ H Q I (k σ H Q hw)⟩
theorem PW.weak {X : Cx} {e : Expr} {t t' : TT} (h : PW X e t) (k : ∀ σ H Q, t' σ H Q → t σ H Q) : PW X e t' := ⟨fun wh pins s σ H Q I hw => h.run wh pins s σ H Q I (k σ H Q hw)⟩
theorem PA.weak {X : Cx} {e : List Expr} {t t' : TA} (h : PA X e t) (k : ∀ σ H Q, t' σ H Q → t σ H Q) : PA X e t' := ⟨fun pos pins s σ H Q I hw => h.run pos pins s σ H Q I (k σ H Q hw)⟩
theorem PS.weak {X : Cx} {e : Stmt} {t t' : TS} (h : PS X e t) (k : ∀ E σ H, t' E σ H → t E σ H) : PS X e t' := ⟨fun pins s σ H E I hw => h.run pins s σ H E I (k E σ H hw)⟩
theorem PSs.weak {X : Cx} {e : List Stmt} {t t' : TS} (h : PSs X e t) (k : ∀ E σ H, t' E σ H → t E σ H) : PSs X e t' := ⟨fun pins s σ H E I hw => h.run pins s σ H E I (k E σ H hw)⟩
section
variable {X : Cx} {cl : Nat → Addr} {e a b c : Expr} {es : List Expr} {m ma mb mc : ME} {mt mu : MT} {pos : Pos}

@[simp] def mVar (i : Nat) : ME := fun δ μ => match δ[i]? with
  | some (.dat d) => some (.dat d, μ)
  | some (.cel k) => some (.cel k, μ)
  | _ => none
@[simp] def mC (d : D) : ME := fun _ μ => some (.dat d, μ)
theorem se_var {i : Nat} {x : Str} (hN : X.N[i]? = some x := by rfl) (hv : Vis X.env.scope x := by first | exact Or.inl rfl | exact Or.inr (Or.inl rfl) | exact Or.inr (Or.inr rfl)) (hd : (x == ("__debug__" : Str)) = false := by decide)
    (hcd : (x == ("__classdict__" : Str)) = false := by decide) : SE X cl (.Name x pos) (mVar i) := by
  refine PE.weak (pe_var hN hv hd hcd) fun σ H Q ⟨F, α, δ, μ, r, μ', C, Ee, hm, k⟩ => ?_
  unfold mVar at hm
  split at hm
  · rename_i d hd
    cases hm
    obtain ⟨v, h1, h2⟩ := Ee.2.1 i d hd
    exact ⟨v, h1, k v F H Evo.refl C h2⟩
  · rename_i kk hd
    cases hm
    obtain ⟨ad, h1, h2⟩ := Ee.2.2 i kk hd
    exact ⟨.ref ad, h2, k _ F H Evo.refl C ⟨ad, h1, rfl⟩⟩
  · cases hm
theorem se_c {d : D} {v : V} (h : PE X e (tC v)) (hv : ∀ F, Rep X.K cl F v d) : SE X cl e (mC d) := by
  refine PE.weak h fun σ H Q ⟨F, α, δ, μ, r, μ', C, Ee, hm, k⟩ => ?_
  cases hm
  exact k v F H Evo.refl C (hv F)
theorem se_int {i : Int} {j : Nat} : SE X cl (.Constant (.int i) j pos) (mC (.int i)) := se_c pe_int fun _ => .int i
theorem se_bl {i : Bool} {j : Nat} : SE X cl (.Constant (.bool i) j pos) (mC (.bl i)) := se_c pe_bl fun _ => .bl i
theorem se_non {j : Nat} : SE X cl (.Constant .none j pos) (mC .non) := se_c pe_non fun _ => .non
theorem se_str {i : Str} {j : Nat} : SE X cl (.Constant (.str i) j pos) (mC (.str i)) := se_c pe_str fun _ => .str i
/-- freeze what comes -/
@[simp] def mFz (m : ME) : ME := fun δ μ => match m δ μ with
  | some (r, μ') => some (froz r, μ')
  | none => none
theorem se_fz (h : SE X cl e m) : SE X cl e (mFz m) := by
  refine PE.weak h fun σ H Q ⟨F, α, δ, μ, r, μ', C, Ee, hm, k⟩ => ?_
  unfold mFz at hm
  split at hm
  · rename_i r0 μ0 h0
    cases hm
    refine ⟨F, α, δ, μ, r0, μ', C, Ee, h0, fun v F' H' ev C' rr => ?_⟩
    obtain ⟨F2, e2, c2, r2⟩ := freeze ev C' rr
    exact k v F2 H' e2 c2 r2
  · cases hm
end
end DL
set_option Elab.async false
set_option linter.all false
set_option maxRecDepth 100000
set_option maxHeartbeats 1000000
namespace DL
open PySem L2

@[simp] def lstOf : R → Mu → Option (List D)
  | .dat (.lst xs), _ => some xs
  | .fr xs, _ => some xs
  | .cel k, μ => match μ[k]? with
    | some (.l xs) => some xs
    | _ => none
  | _, _ => none
section
variable {K : PySem.W.Frag} {cl : Nat → Addr} {F H H0 : Hp} {α : List Addr} {μ : Mu} {v x y : V} {r rx ry : R} {xs ys : List D}
theorem cell_at (C : Conc K cl F α μ H) {k : Nat} {a : Addr} (ha : α[k]? = some a) (hx : μ[k]? = some (.l xs)) : ∃ vs, H a = some (.lst vs) ∧ Reps K cl F vs xs := C.cell k a (.l xs) ha hx
theorem lstOf_cel {k : Nat} (q : lstOf (.cel k) μ = some xs) : μ[k]? = some (.l xs) := by
  have e : lstOf (.cel k) μ = match μ[k]? with
    | some (.l xs) => some xs
    | _ => none := rfl
  rw [e] at q
  split at q
  · rename_i h
    cases q
    exact h
  · cases q
theorem lstOf_ok (C : Conc K cl F α μ H) (h : RepR K cl H0 F α H x r) (q : lstOf r μ = some xs) : ∃ a vs, x = .ref a ∧ H a = some (.lst vs) ∧ Reps K cl F vs xs := by
  cases r with
  | no => cases q
  | dat d =>
    cases d with
    | lst zs =>
      cases q
      cases h with
      | lst h1 h2 => exact ⟨_, _, rfl, C.sub _ _ h1, h2⟩
    | _ => cases q
  | cel k =>
    obtain ⟨a, h1, rfl⟩ := h
    obtain ⟨vs, h2, h3⟩ := cell_at C h1 (lstOf_cel q)
    exact ⟨a, vs, rfl, h2, h3⟩
  | fc c => cases q
  | fr zs =>
    cases q
    obtain ⟨a, vs, rfl, _, _, _, h5, h6⟩ := h
    exact ⟨a, vs, rfl, h5, h6⟩
/-- a list or the script or a tuple, read -/
inductive Sq where
  | l (xs : List D) | t (xs : List D)
@[simp] def sqOf : R → Mu → Option Sq
  | .dat (.tup xs), _ => some (.t xs)
  | .dat (.scr ns), _ => some (.l (ns.map D.int))
  | r, μ => (lstOf r μ).map .l
@[simp] def Sq.all : Sq → List D
  | .l xs => xs
  | .t xs => xs
def Sq.At (K : PySem.W.Frag) (H : Hp) (a : Addr) (vs : List V) : Sq → Prop
  | .l _ => SqL K H a vs
  | .t _ => SqT K H a vs
theorem sqOf_ok (C : Conc K cl F α μ H) (h : RepR K cl H0 F α H x r) {q : Sq} (e : sqOf r μ = some q) :
    ∃ a vs, x = .ref a ∧ Reps K cl F vs q.all ∧ q.At K H a vs := by
  have gen : (lstOf r μ).map Sq.l = some q → ∃ a vs, x = .ref a ∧ Reps K cl F vs q.all ∧ q.At K H a vs := by
    intro e
    cases e1 : lstOf r μ with
    | none =>
      rw [e1] at e
      cases e
    | some xs =>
      rw [e1] at e
      cases e
      obtain ⟨a, vs, h1, h2, h3⟩ := lstOf_ok C h e1
      exact ⟨a, vs, h1, h3, SqL.of h2⟩
  cases r with
  | no => exact gen e
  | cel k => exact gen e
  | fr zs => exact gen e
  | fc c => exact gen e
  | dat d =>
    cases d with
    | tup zs =>
      cases e
      cases h with
      | tup h1 h2 => exact ⟨_, _, rfl, h2, Same.sqT C.sub h1⟩
    | scr ns =>
      cases e
      cases h with
      | scr h1 => exact ⟨_, _, rfl, Reps.ints ns, C.sub.seq h1⟩
    | _ => exact gen e
end


def OpSem (K : PySem.W.Frag) (cl : Nat → Addr) (r : R2) (f : R → R → Mu → Option R) : Prop := ∀ (F : Hp) (α : List Addr) (μ : Mu) (H H0 : Hp) (x y : V) (rx ry z : R) (Q : VK), Conc K cl F α μ H → RepR K cl H0 F α H x rx → RepR K cl H0 F α H y ry → f rx ry μ = some z →
  (∀ v F' H', Evo F α H F' α H' → Conc K cl F' α μ H' → RepR K cl H F' α H' v z → Q v H') → r x y H Q
@[simp] def mOp (f : R → R → Mu → Option R) (ma mb : ME) : ME := fun δ μ => match ma δ μ with
  | none => none
  | some (x, μ1) => match mb δ μ1 with
    | none => none
    | some (y, μ2) => match f x y μ2 with
      | none => none
      | some z => some (z, μ2)
section
variable {X : Cx} {cl : Nat → Addr} {e a b c : Expr} {es : List Expr} {m ma mb mc : ME} {pos : Pos} {r r' : R2} {f f' : R → R → Mu → Option R} {K : PySem.W.Frag}
theorem op_imp (hf : OpSem K cl r f) : ∀ σ H Q, tm K cl (mOp f ma mb) σ H Q → tOp r (tm K cl ma) (tm K cl mb) σ H Q := fun σ H Q ⟨F, α, δ, μ, z, μ', C, Ee, hm, k⟩ => by
  unfold mOp at hm
  split at hm
  · cases hm
  rename_i x1 μ1 h1
  split at hm
  · cases hm
  rename_i y1 μ2 h2
  split at hm
  · cases hm
  rename_i z1 h3
  cases hm
  refine ⟨F, α, δ, μ, x1, μ1, C, Ee, h1, fun v F1 H1 e1 c1 r1 => ⟨F1, α, δ, μ1, y1, μ', c1, Ee.step e1, h2, fun w F2 H2 e2 c2 r2 => ?_⟩⟩
  exact hf F2 α μ' H2 H v w x1 y1 z Q c2 (r1.step e2) (r2.back e1.dom) h3 fun u F3 H3 e3 c3 r3 => k u F3 H3 (e1.trans (e2.trans e3)) c3 (r3.back fun p hp => e1.dom p (e2.dom p hp))
theorem se_op {op : Operator} (ho : OpR X (binaryOp op) r) (hf : OpSem X.K cl r f) (ha : SE X cl a ma) (hb : SE X cl b mb) : SE X cl (.BinOp a op b pos) (mOp f ma mb) := PE.weak (pe_op ho ha hb) (op_imp hf)
theorem se_cmp {op : CmpOp} (ho : OpR X (compareOp op) r) (hf : OpSem X.K cl r f) (ha : SE X cl a ma) (hb : SE X cl b mb) (hm : behindInMarks op b = false) : SE X cl (.Compare a [op] [b] pos) (mOp f ma mb) := PE.weak (pe_cmpR ho ha hb hm) (op_imp hf)
/-- a bool out of a value -/
@[simp] def mB (m : ME) : MT := fun δ μ => match m δ μ with
  | some (.dat (.bl b), μ') => some (b, μ')
  | _ => none
theorem mB_of {δ : Sl} {μ μ' : Mu} {k : Bool} (h : mB m δ μ = some (k, μ')) : m δ μ = some (.dat (.bl k), μ') := by
  unfold mB at h
  split at h
  · rename_i b μ'' h0
    cases h
    exact h0
  · cases h
theorem rep_bl {F : Hp} {v : V} {k : Bool} (h : Rep K cl F v (.bl k)) : v = .bl k := by
  cases h
  rfl
theorem rep_int {F : Hp} {v : V} {k : Int} (h : Rep K cl F v (.int k)) : v = .int k := by
  cases h
  rfl
theorem rep_str {F : Hp} {v : V} {k : Str} (h : Rep K cl F v (.str k)) : v = .str k := by
  cases h
  rfl
theorem test_imp {t : TE} (h : ∀ σ H Q, tm K cl m σ H Q → t σ H Q) : ∀ σ H Q, tmt K cl (mB m) σ H Q → tTest t σ H Q := fun σ H Q ⟨F, α, δ, μ, k, μ', C, Ee, hm, q⟩ =>
  h σ H _ ⟨F, α, δ, μ, _, μ', C, Ee, mB_of hm, fun v F' H' ev C' r => ⟨k, rep_bl r, q F' H' ev C'⟩⟩
theorem st_cmp {op : CmpOp} (ho : OpR X (compareOp op) r) (hf : OpSem X.K cl r f) (ha : SE X cl a ma) (hb : SE X cl b mb) (hm : behindInMarks op b = false) : ST X cl (.Compare a [op] [b] pos) (mB (mOp f ma mb)) :=
  PT.weak (pt_cmpR ho ha hb hm) (test_imp (op_imp hf))
theorem st_val (h : SE X cl e m) (he : ∀ whole, isTrue e X.env whole = (do let v ← whole; standAt e.pos; holding [v] (truthy v)) := by intro _; rfl) : ST X cl e (mB m) :=
  PT.weak (pt_val h he) (test_imp fun _ _ _ h => h)

@[simp] def mChain (f f' : R → R → Mu → Option R) (ma mb mc : ME) : ME := fun δ μ => match ma δ μ with
  | none => none
  | some (x, μ1) => match mb δ μ1 with
    | none => none
    | some (y, μ2) => match f x y μ2 with
      | some (.dat (.bl true)) => match mc δ μ2 with
        | none => none
        | some (z, μ3) => match f' y z μ3 with
          | none => none
          | some u => some (u, μ3)
      | some (.dat (.bl false)) => some (.dat (.bl false), μ2)
      | _ => none
theorem chain_imp (hf : OpSem K cl r f) (hf' : OpSem K cl r' f') : ∀ σ H Q, tm K cl (mChain f f' ma mb mc) σ H Q → tChain r r' (tm K cl ma) (tm K cl mb) (tm K cl mc) σ H Q := fun σ H Q ⟨F, α, δ, μ, z, μ', C, Ee, hm, k⟩ => by
  unfold mChain at hm
  split at hm
  · cases hm
  rename_i x1 μ1 h1
  split at hm
  · cases hm
  rename_i y1 μ2 h2
  refine ⟨F, α, δ, μ, x1, μ1, C, Ee, h1, fun v F1 H1 e1 c1 r1 => ⟨F1, α, δ, μ1, y1, μ2, c1, Ee.step e1, h2, fun w F2 H2 e2 c2 r2 => ?_⟩⟩
  split at hm
  · rename_i h3
    split at hm
    · cases hm
    rename_i z1 μ3 h4
    split at hm
    · cases hm
    rename_i u1 h5
    cases hm
    refine hf F2 α μ2 H2 H v w x1 y1 _ _ c2 (r1.step e2) (r2.back e1.dom) h3 fun u F3 H3 e3 c3 r3 => ⟨true, rep_bl r3, iteT ?_⟩
    refine ⟨F3, α, δ, μ2, z1, μ', c3, (Ee.step e1).step (e2.trans e3), h4, fun w2 F4 H4 e4 c4 r4 => ?_⟩
    exact hf' F4 α μ' H4 H w w2 y1 z1 z Q c4 ((r2.back e1.dom).step (e3.trans e4)) (r4.back fun p hp => e1.dom p (e2.dom p (e3.dom p hp))) h5 fun u F5 H5 e5 c5 r5 => k u F5 H5 (e1.trans (e2.trans (e3.trans (e4.trans e5)))) c5 (r5.back fun p hp => e1.dom p (e2.dom p (e3.dom p (e4.dom p hp))))
  · rename_i h3
    cases hm
    refine hf F2 α μ' H2 H v w x1 y1 _ _ c2 (r1.step e2) (r2.back e1.dom) h3 fun u F3 H3 e3 c3 r3 => ⟨false, rep_bl r3, iteF ?_⟩
    exact k _ F3 H3 (e1.trans (e2.trans e3)) c3 (.bl false)
  · cases hm
theorem se_chain {op op' : CmpOp} (hf : OpSem X.K cl r f) (hf' : OpSem X.K cl r' f') (h : PE X (.Compare a [op, op'] [b, c] pos) (tChain r r' (tm X.K cl ma) (tm X.K cl mb) (tm X.K cl mc))) :
    SE X cl (.Compare a [op, op'] [b, c] pos) (mChain f f' ma mb mc) := PE.weak h (chain_imp hf hf')
theorem st_chain {op op' : CmpOp} (hf : OpSem X.K cl r f) (hf' : OpSem X.K cl r' f') (h : PT X (.Compare a [op, op'] [b, c] pos) (tTest (tChain r r' (tm X.K cl ma) (tm X.K cl mb) (tm X.K cl mc)))) :
    ST X cl (.Compare a [op, op'] [b, c] pos) (mB (mChain f f' ma mb mc)) := PT.weak h (test_imp (chain_imp hf hf'))

@[simp] def mUn (f : Int → Int) (m : ME) : ME := fun δ μ => match m δ μ with
  | some (.dat (.int i), μ') => some (.dat (.int (f i)), μ')
  | _ => none
theorem se_neg (h : SE X cl e m) : SE X cl (.UnaryOp .USub e pos) (mUn (fun i => -i) m) := by
  refine PE.weak (pe_un un_neg h) fun σ H Q ⟨F, α, δ, μ, z, μ', C, Ee, hm, k⟩ => ?_
  unfold mUn at hm
  split at hm
  · rename_i i μ'' h0
    cases hm
    refine ⟨F, α, δ, μ, _, μ', C, Ee, h0, fun v F1 H1 e1 c1 r1 => ⟨i, rep_int r1, k _ F1 H1 e1 c1 (.int _)⟩⟩
  · cases hm
@[simp] def mNot (m : ME) : ME := fun δ μ => match m δ μ with
  | some (.dat (.bl b), μ') => some (.dat (.bl (!b)), μ')
  | _ => none
theorem se_not (h : SE X cl e m) : SE X cl (.UnaryOp .Not e pos) (mNot m) := by
  refine PE.weak (pe_not h) fun σ H Q ⟨F, α, δ, μ, z, μ', C, Ee, hm, k⟩ => ?_
  unfold mNot at hm
  split at hm
  · rename_i i μ'' h0
    cases hm
    refine ⟨F, α, δ, μ, _, μ', C, Ee, h0, fun v F1 H1 e1 c1 r1 => ⟨i, rep_bl r1, k _ F1 H1 e1 c1 (.bl _)⟩⟩
  · cases hm
@[simp] def mtNot (m : MT) : MT := fun δ μ => match m δ μ with
  | some (b, μ') => some (!b, μ')
  | none => none
theorem st_not {mt : MT} (h : ST X cl e mt) : ST X cl (.UnaryOp .Not e pos) (mtNot mt) := by
  refine PT.weak (pt_not h) fun σ H Q ⟨F, α, δ, μ, z, μ', C, Ee, hm, k⟩ => ?_
  unfold mtNot at hm
  split at hm
  · rename_i i μ'' h0
    cases hm
    exact ⟨F, α, δ, μ, _, μ', C, Ee, h0, fun F1 H1 e1 c1 => k F1 H1 e1 c1⟩
  · cases hm

@[simp] def truR : R → Mu → Option Bool
  | .dat .non, _ => some false
  | .dat (.bl b), _ => some b
  | .dat (.int i), _ => some (i != 0)
  | r, μ => (sqOf r μ).map fun q => !q.all.isEmpty
theorem isEmpty_reps {F : Hp} {vs : List V} {xs : List D} (h : Reps K cl F vs xs) : vs.isEmpty = xs.isEmpty := by
  cases h <;> rfl
theorem truR_ok {F H H0 : Hp} {α : List Addr} {μ : Mu} {x : V} {r : R} {k : Bool} (C : Conc K cl F α μ H) (h : RepR K cl H0 F α H x r) (q : truR r μ = some k) : TruV K x H k := by
  have gen : (sqOf r μ).map (fun q => !q.all.isEmpty) = some k → TruV K x H k := by
    intro e
    cases e1 : sqOf r μ with
    | none =>
      rw [e1] at e
      cases e
    | some z =>
      rw [e1] at e
      cases e
      obtain ⟨a, vs, rfl, h2, h3⟩ := sqOf_ok C h e1
      show TruV K (.ref a) H (!z.all.isEmpty)
      rw [← isEmpty_reps h2]
      cases z with
      | l xs => exact .inl ⟨vs, h3, rfl⟩
      | t xs => exact .inr (.inl ⟨vs, h3, rfl⟩)
  cases r with
  | no => exact gen q
  | cel j => exact gen q
  | fr zs => exact gen q
  | fc c => exact gen q
  | dat d =>
    cases d with
    | non =>
      cases q
      cases h
      rfl
    | bl b =>
      cases q
      cases h
      rfl
    | int i =>
      cases q
      cases h
      rfl
    | _ => exact gen q
@[simp] def mOr (ma mb : ME) : ME := fun δ μ => match ma δ μ with
  | none => none
  | some (x, μ1) => match truR x μ1 with
    | some true => some (x, μ1)
    | some false => mb δ μ1
    | none => none
@[simp] def mAnd (ma mb : ME) : ME := fun δ μ => match ma δ μ with
  | none => none
  | some (x, μ1) => match truR x μ1 with
    | some false => some (x, μ1)
    | some true => mb δ μ1
    | none => none
theorem se_one {op : BoolOp} (h : SE X cl e m) : SE X cl (.BoolOp op [e] pos) m := pe_one h
theorem se_or {rest : List Expr} (ha : SE X cl a ma) (hb : SE X cl (.BoolOp .Or (b :: rest) pos) mb) : SE X cl (.BoolOp .Or (a :: b :: rest) pos) (mOr ma mb) := by
  refine PE.weak (pe_orT ha hb) fun σ H Q ⟨F, α, δ, μ, z, μ', C, Ee, hm, k⟩ => ?_
  unfold mOr at hm
  split at hm
  · cases hm
  rename_i x1 μ1 h1
  refine ⟨F, α, δ, μ, x1, μ1, C, Ee, h1, fun v F1 H1 e1 c1 r1 => ?_⟩
  split at hm
  · rename_i h2
    cases hm
    exact ⟨true, truR_ok c1 r1 h2, iteT (k v F1 H1 e1 c1 r1)⟩
  · rename_i h2
    exact ⟨false, truR_ok c1 r1 h2, iteF ⟨F1, α, δ, μ1, z, μ', c1, Ee.step e1, hm, fun w F2 H2 e2 c2 r2 => k w F2 H2 (e1.trans e2) c2 (r2.back e1.dom)⟩⟩
  · cases hm
theorem se_and {rest : List Expr} (ha : SE X cl a ma) (hb : SE X cl (.BoolOp .And (b :: rest) pos) mb) : SE X cl (.BoolOp .And (a :: b :: rest) pos) (mAnd ma mb) := by
  refine PE.weak (pe_andT ha hb) fun σ H Q ⟨F, α, δ, μ, z, μ', C, Ee, hm, k⟩ => ?_
  unfold mAnd at hm
  split at hm
  · cases hm
  rename_i x1 μ1 h1
  refine ⟨F, α, δ, μ, x1, μ1, C, Ee, h1, fun v F1 H1 e1 c1 r1 => ?_⟩
  split at hm
  · rename_i h2
    cases hm
    exact ⟨false, truR_ok c1 r1 h2, iteF (k v F1 H1 e1 c1 r1)⟩
  · rename_i h2
    exact ⟨true, truR_ok c1 r1 h2, iteT ⟨F1, α, δ, μ1, z, μ', c1, Ee.step e1, hm, fun w F2 H2 e2 c2 r2 => k w F2 H2 (e1.trans e2) c2 (r2.back e1.dom)⟩⟩
  · cases hm
@[simp] def mtOr (ma mb : MT) : MT := fun δ μ => match ma δ μ with
  | some (true, μ1) => some (true, μ1)
  | some (false, μ1) => mb δ μ1
  | none => none
@[simp] def mtAnd (ma mb : MT) : MT := fun δ μ => match ma δ μ with
  | some (false, μ1) => some (false, μ1)
  | some (true, μ1) => mb δ μ1
  | none => none
abbrev SW (X : Cx) (cl : Nat → Addr) (e : Expr) (m : MT) : Prop := PW X e (tmt X.K cl m)
variable {mt mu : MT} {rest : List Expr}
theorem sw_and1 (h : ST X cl e mt) : SW X cl (.BoolOp .And [e] pos) mt := pw_and1 h
theorem sw_or1 (h : ST X cl e mt) : SW X cl (.BoolOp .Or [e] pos) mt := pw_or1 h
theorem sw_and (ha : ST X cl a mt) (hb : SW X cl (.BoolOp .And (b :: rest) pos) mu) : SW X cl (.BoolOp .And (a :: b :: rest) pos) (mtAnd mt mu) := by
  refine PW.weak (pw_and ha hb) fun σ H Q ⟨F, α, δ, μ, z, μ', C, Ee, hm, k⟩ => ?_
  unfold mtAnd at hm
  split at hm
  · rename_i μ1 h1
    cases hm
    exact ⟨F, α, δ, μ, _, μ', C, Ee, h1, fun F1 H1 e1 c1 => iteF (k F1 H1 e1 c1)⟩
  · rename_i μ1 h1
    exact ⟨F, α, δ, μ, _, μ1, C, Ee, h1, fun F1 H1 e1 c1 => iteT ⟨F1, α, δ, μ1, z, μ', c1, Ee.step e1, hm, fun F2 H2 e2 c2 => k F2 H2 (e1.trans e2) c2⟩⟩
  · cases hm
theorem sw_or (ha : ST X cl a mt) (hb : SW X cl (.BoolOp .Or (b :: rest) pos) mu) : SW X cl (.BoolOp .Or (a :: b :: rest) pos) (mtOr mt mu) := by
  refine PW.weak (pw_or ha hb) fun σ H Q ⟨F, α, δ, μ, z, μ', C, Ee, hm, k⟩ => ?_
  unfold mtOr at hm
  split at hm
  · rename_i μ1 h1
    cases hm
    exact ⟨F, α, δ, μ, _, μ', C, Ee, h1, fun F1 H1 e1 c1 => iteT (k F1 H1 e1 c1)⟩
  · rename_i μ1 h1
    exact ⟨F, α, δ, μ, _, μ1, C, Ee, h1, fun F1 H1 e1 c1 => iteF ⟨F1, α, δ, μ1, z, μ', c1, Ee.step e1, hm, fun F2 H2 e2 c2 => k F2 H2 (e1.trans e2) c2⟩⟩
  · cases hm
theorem st_w (h : SW X cl e mt) : ST X cl e mt := h.pt
@[simp] def mIf (mt : MT) (ma mb : ME) : ME := fun δ μ => match mt δ μ with
  | some (true, μ1) => ma δ μ1
  | some (false, μ1) => mb δ μ1
  | none => none
theorem se_if (hc : ST X cl c mt) (ha : SE X cl a ma) (hb : SE X cl b mb) : SE X cl (.IfExp c a b pos) (mIf mt ma mb) := by
  refine PE.weak (pe_ifExp hc ha hb) fun σ H Q ⟨F, α, δ, μ, z, μ', C, Ee, hm, k⟩ => ?_
  unfold mIf at hm
  split at hm
  · rename_i μ1 h1
    exact ⟨F, α, δ, μ, _, μ1, C, Ee, h1, fun F1 H1 e1 c1 => iteT ⟨F1, α, δ, μ1, z, μ', c1, Ee.step e1, hm, fun v F2 H2 e2 c2 r2 => k v F2 H2 (e1.trans e2) c2 (r2.back e1.dom)⟩⟩
  · rename_i μ1 h1
    exact ⟨F, α, δ, μ, _, μ1, C, Ee, h1, fun F1 H1 e1 c1 => iteF ⟨F1, α, δ, μ1, z, μ', c1, Ee.step e1, hm, fun v F2 H2 e2 c2 r2 => k v F2 H2 (e1.trans e2) c2 (r2.back e1.dom)⟩⟩
  · cases hm


@[simp] def mNil : MA := fun _ μ => some ([], μ)
@[simp] def mCons (m : ME) (ms : MA) : MA := fun δ μ => match m δ μ with
  | none => none
  | some (.fc _, _) => none
  | some (r, μ1) => match ms δ μ1 with
    | none => none
    | some (rs, μ2) => some (froz r :: rs, μ2)
theorem sa_nil : SA X cl [] mNil := by
  refine PA.weak pa_nil fun σ H Q ⟨F, α, δ, μ, z, μ', C, Ee, hm, k⟩ => ?_
  cases hm
  exact k [] F H Evo.refl C .nil
theorem arg_of {H0 F H : Hp} {α : List Addr} {v : V} {r : R} (hr : ∀ c, r ≠ .fc c) (h : RepR K cl H0 F α H v (froz r)) : ArgR K cl F α v (froz r) := by
  cases r with
  | no => exact h
  | dat d => exact h
  | cel k => exact h
  | fr xs => exact h
  | fc c => exact absurd rfl (hr c)
theorem ArgR.step {F F' H H' : Hp} {α α' : List Addr} {v : V} {r : R} (h : ArgR K cl F α v r) (e : Evo F α H F' α' H') : ArgR K cl F' α' v r := by
  cases r with
  | no => exact h
  | dat d => exact Rep.mono e.ff h
  | cel k =>
    obtain ⟨a, h1, h2⟩ := h
    obtain ⟨x, rfl⟩ := e.ext
    exact ⟨a, by rw [List.getElem?_append_left (List.getElem?_eq_some_iff.mp h1).1]; exact h1, h2⟩
  | fr xs => exact h
  | fc c => exact h
theorem sa_cons {ms : MA} (ha : SE X cl a m) (hr : SA X cl es ms) (hs : starEach (a :: es) X.env = (false, eval a X.env) :: starEach es X.env := by rfl) : SA X cl (a :: es) (mCons m ms) := by
  refine PA.weak (pa_cons ha hr hs) fun σ H Q ⟨F, α, δ, μ, z, μ', C, Ee, hm, k⟩ => ?_
  unfold mCons at hm
  split at hm
  · cases hm
  · cases hm
  rename_i r1 μ1 hnf h1
  replace hnf : ∀ c, r1 ≠ .fc c := fun c z => hnf c z
  split at hm
  · cases hm
  rename_i rs μ2 h2
  cases hm
  refine ⟨F, α, δ, μ, r1, μ1, C, Ee, h1, fun v F1 H1 e1 c1 q1 => ?_⟩
  obtain ⟨F1', e1', c1', q1'⟩ := freeze e1 c1 q1
  refine ⟨F1', α, δ, μ1, rs, μ', c1', Ee.step e1', h2, fun vs F2 H2 e2 c2 q2 => k _ F2 H2 (e1'.trans e2) c2 (.cons ((arg_of hnf q1').step e2) q2)⟩
@[simp] def allD : List R → Option (List D)
  | [] => some []
  | .dat d :: rs => match allD rs with
    | some ds => some (d :: ds)
    | none => none
  | _ => none
theorem allD_ok {F : Hp} {α : List Addr} : ∀ {vs : List V} {rs : List R} {ds : List D}, ArgRs K cl F α vs rs → allD rs = some ds → Reps K cl F vs ds
  | _, _, _, .nil, h => by
    cases h
    exact .nil
  | _, _, _, .cons (r := r) h q, e => by
    cases r with
    | dat d =>
      unfold allD at e
      split at e
      · rename_i ds' h'
        cases e
        exact .cons h (allD_ok q h')
      · cases e
    | _ => cases e
@[simp] def mTup (ms : MA) : ME := fun δ μ => match ms δ μ with
  | none => none
  | some (rs, μ1) => match allD rs with
    | none => none
    | some ds => if ds.length ≤ 100000 then some (.dat (.tup ds), μ1) else none
@[simp] def mLst (ms : MA) : ME := fun δ μ => match ms δ μ with
  | none => none
  | some (rs, μ1) => match allD rs with
    | none => none
    | some ds => if ds.length ≤ 100000 then some (.fr ds, μ1) else none
theorem sz_of {n : Nat} (h : n ≤ 100000) : n ≤ sizeLine := Nat.le_trans h (by decide)
theorem sz_lt {n : Nat} (h : n < 100000) : n < sizeLine := Nat.lt_of_lt_of_le h (by decide)
theorem se_tup {ms : MA} {x1 : Nat} (h : SA X cl es ms) : SE X cl (.Tuple es x1 pos) (mTup ms) := by
  refine PE.weak (pe_tup h) fun σ H Q ⟨F, α, δ, μ, z, μ', C, Ee, hm, k⟩ => ?_
  unfold mTup at hm
  split at hm
  · cases hm
  rename_i rs μ1 h1
  split at hm
  · cases hm
  rename_i ds h2
  split at hm
  · rename_i h3
    cases hm
    refine ⟨F, α, δ, μ, rs, μ', C, Ee, h1, fun vs F1 H1 e1 c1 q1 => ?_⟩
    have q2 := allD_ok q1 h2
    refine ⟨sz_of (by rw [q2.length]; exact h3), fun p hp => ?_⟩
    obtain ⟨e2, c2⟩ := c1.new (o := .tup vs) hp
    exact k _ _ _ (e1.trans e2) c2 (.tup (SqT.of upd_same) (q2.mono e2.ff))
  · cases hm
theorem se_lst {ms : MA} (h : SA X cl es ms) : SE X cl (.List es pos) (mLst ms) := by
  refine PE.weak (pe_lst h) fun σ H Q ⟨F, α, δ, μ, z, μ', C, Ee, hm, k⟩ => ?_
  unfold mLst at hm
  split at hm
  · cases hm
  rename_i rs μ1 h1
  split at hm
  · cases hm
  rename_i ds h2
  split at hm
  · rename_i h3
    cases hm
    refine ⟨F, α, δ, μ, rs, μ', C, Ee, h1, fun vs F1 H1 e1 c1 q1 => ?_⟩
    have q2 := allD_ok q1 h2
    refine ⟨sz_of (by rw [q2.length]; exact h3), fun p hp => ?_⟩
    obtain ⟨e2, c2, r2⟩ := c1.newL hp q2
    exact k _ _ _ (e1.trans e2) c2 (r2.back e1.dom)
  · cases hm
end
end DL
set_option Elab.async false
set_option linter.all false
set_option maxRecDepth 100000
set_option maxHeartbeats 1000000
namespace DL
open PySem L2
section
variable {X : Cx} {cl : Nat → Addr} {e a b c : Expr} {es : List Expr} {m ma mb mc : ME} {pos : Pos} {r r' : R2} {f f' : R → R → Mu → Option R} {K : PySem.W.Frag}

@[simp] def fI (C : Int → Int → Bool) (g : Int → Int → D) : R → R → Mu → Option R
  | .dat (.int i), .dat (.int j), _ => if C i j then some (.dat (g i j)) else none
  | _, _, _ => none
theorem sem_I {C : Int → Int → Prop} {Cb : Int → Int → Bool} {g : Int → Int → V} {gd : Int → Int → D} (hC : ∀ i j, Cb i j = true → C i j) (hg : ∀ i j F, Rep K cl F (g i j) (gd i j)) : OpSem K cl (rI C g) (fI Cb gd) := by
  intro F α μ H H0 x y rx ry z Q C' h1 h2 hz k
  unfold fI at hz
  split at hz
  · rename_i i j
    split at hz
    · rename_i hc
      cases hz
      exact ⟨i, j, rep_int h1, rep_int h2, hC i j hc, k _ F H Evo.refl C' (hg i j F)⟩
    · cases hz
  · cases hz
theorem sem_I0 {g : Int → Int → V} {gd : Int → Int → D} (hg : ∀ i j F, Rep K cl F (g i j) (gd i j)) : OpSem K cl (rI0 g) (fI (fun _ _ => true) gd) := by
  intro F α μ H H0 x y rx ry z Q C' h1 h2 hz k
  unfold fI at hz
  split at hz
  · rename_i i j
    split at hz
    · rename_i hc
      cases hz
      exact ⟨i, j, rep_int h1, rep_int h2, k _ F H Evo.refl C' (hg i j F)⟩
    · cases hz
  · cases hz
abbrev fSub := fI (fun _ _ => true) fun i j => .int (i - j)
abbrev fDiv := fI (fun _ j => decide (0 < j ∧ j < 1073741824)) fun i j => .int (i / j)
abbrev fMod := fI (fun _ j => decide (0 < j)) fun i j => .int (i % j)
abbrev fPow := fI (fun i j => decide (0 ≤ j ∧ j ≤ 1000000 ∧ i.natAbs < 2 ^ 64)) fun i j => .int (i ^ j.toNat)
abbrev fLtI := fI (fun _ _ => true) fun i j => .bl (decide (i < j))
abbrev fLeI := fI (fun _ _ => true) fun i j => .bl (decide (i ≤ j))
abbrev fGtI := fI (fun _ _ => true) fun i j => .bl (decide (j < i))
abbrev fGeI := fI (fun _ _ => true) fun i j => .bl (decide (j ≤ i))
theorem se_sub (ha : SE X cl a ma) (hb : SE X cl b mb) : SE X cl (.BinOp a .Sub b pos) (mOp fSub ma mb) := se_op op_sub (sem_I0 fun _ _ _ => .int _) ha hb
theorem se_div (ha : SE X cl a ma) (hb : SE X cl b mb) : SE X cl (.BinOp a .FloorDiv b pos) (mOp fDiv ma mb) := se_op op_fdiv (sem_I (fun i j h => show CDiv i j from of_decide_eq_true (p := 0 < j ∧ j < 1073741824) h) fun _ _ _ => .int _) ha hb
theorem se_mod (ha : SE X cl a ma) (hb : SE X cl b mb) : SE X cl (.BinOp a .Mod b pos) (mOp fMod ma mb) := se_op op_mod (sem_I (fun _ _ h => of_decide_eq_true h) fun _ _ _ => .int _) ha hb
theorem se_pow (ha : SE X cl a ma) (hb : SE X cl b mb) : SE X cl (.BinOp a .Pow b pos) (mOp fPow ma mb) := se_op op_pow (sem_I (fun i j h => show CPow i j from of_decide_eq_true (p := 0 ≤ j ∧ j ≤ 1000000 ∧ i.natAbs < 2 ^ 64) h) fun _ _ _ => .int _) ha hb

@[simp] def fAdd : R → R → Mu → Option R
  | .dat (.int i), .dat (.int j), _ => some (.dat (.int (i + j)))
  | .dat (.str x), .dat (.str y), _ => if x.length + y.length ≤ 100000 then some (.dat (.str (x ++ y))) else none
  | .dat (.tup xs), .dat (.tup ys), _ => if xs.length + ys.length ≤ 100000 then some (.dat (.tup (xs ++ ys))) else none
  | x, y, μ => match lstOf x μ, lstOf y μ with
    | some xs, some ys => if xs.length + ys.length ≤ 100000 then some (.fr (xs ++ ys)) else none
    | _, _ => none
def rAddAll (K : PySem.W.Frag) : R2 := fun x y H Q => (rI0 (fun i j => .int (i + j)) x y H Q) ∨ ((∃ i j, x = .str i ∧ y = .str j ∧ i.length + j.length ≤ sizeLine ∧ Q (.str (i ++ j)) H) ∨ (rCatA K x y H Q ∨ rCat x y H Q))
theorem op_addAll : OpR X (binaryOp .Add) (rAddAll X.K) := OpR.or op_add (OpR.or op_add_str (OpR.or op_catA op_cat))
theorem sem_add : OpSem K cl (rAddAll K) fAdd := by
  intro F α μ H H0 x y rx ry z Q C h1 h2 hz k
  have gen : (match lstOf rx μ, lstOf ry μ with | some xs, some ys => (if xs.length + ys.length ≤ 100000 then some (R.fr (xs ++ ys)) else none) | _, _ => none) = some z → rAddAll K x y H Q := by
    intro hz
    split at hz
    · rename_i xs ys e1 e2
      split at hz
      · rename_i hl
        cases hz
        obtain ⟨p, vs, rfl, q1, q2⟩ := lstOf_ok C h1 e1
        obtain ⟨p', vs', rfl, q1', q2'⟩ := lstOf_ok C h2 e2
        refine .inr (.inr (.inr ⟨p, p', vs, vs', rfl, rfl, q1, q1', ?_, fun l hl' => ?_⟩))
        · rw [q2.length, q2'.length]
          exact sz_of hl
        · obtain ⟨e3, c3, r3⟩ := C.newL hl' (q2.append q2')
          exact k _ _ _ e3 c3 r3
      · cases hz
    · cases hz
  unfold fAdd at hz
  split at hz
  · rename_i i j
    cases hz
    exact .inl ⟨i, j, rep_int h1, rep_int h2, k _ F H Evo.refl C (.int _)⟩
  · rename_i i j
    split at hz
    · rename_i hl
      cases hz
      exact .inr (.inl ⟨i, j, rep_str h1, rep_str h2, sz_of hl, k _ F H Evo.refl C (.str _)⟩)
    · cases hz
  · rename_i xs ys
    split at hz
    · rename_i hl
      cases hz
      cases h1 with
      | tup q1 q2 =>
        cases h2 with
        | tup q1' q2' =>
          refine .inr (.inr (.inl ⟨_, _, _, _, rfl, rfl, Same.sqT C.sub q1, Same.sqT C.sub q1', ?_, fun e => ?_, fun _ e => ?_, fun _ _ p hp => ?_⟩))
          · rw [q2.length, q2'.length]
            exact sz_of hl
          · subst e
            cases q2
            exact k _ F H Evo.refl C (.tup q1' q2')
          · subst e
            cases q2'
            rw [List.append_nil] at k
            exact k _ F H Evo.refl C (.tup q1 q2)
          · obtain ⟨e3, c3⟩ := C.new (o := .tup _) hp
            exact k _ _ _ e3 c3 (.tup (SqT.of upd_same) ((q2.append q2').mono e3.ff))
    · cases hz
  · exact gen hz
theorem se_add (ha : SE X cl a ma) (hb : SE X cl b mb) : SE X cl (.BinOp a .Add b pos) (mOp fAdd ma mb) := se_op op_addAll sem_add ha hb

def cMul (i j : Int) : Bool := decide (-(2 ^ 64) < i ∧ i < 2 ^ 64) || decide (-(2 ^ 64) < j ∧ j < 2 ^ 64)
theorem cMul_ok {i j : Int} (h : cMul i j = true) : CMul i j := by
  unfold cMul at h
  rcases Bool.or_eq_true_iff.mp h with h | h
  · exact .inl (of_decide_eq_true h)
  · exact .inr (of_decide_eq_true h)
@[simp] def fMul : R → R → Mu → Option R
  | .dat (.int i), .dat (.int j), _ => if cMul i j then some (.dat (.int (i * j))) else none
  | x, .dat (.int k), μ => match lstOf x μ with
    | some xs => if 0 ≤ k ∧ k ≤ 1000 ∧ xs.length ≤ 1000 then some (.fr (List.replicate k.toNat xs).flatten) else none
    | none => none
  | _, _, _ => none
def rMulAll : R2 := fun x y H Q => rI CMul (fun i j => .int (i * j)) x y H Q ∨ rRep x y H Q
theorem op_mulAll : OpR X (binaryOp .Mult) rMulAll := OpR.or op_mul op_rep
theorem sem_mul : OpSem K cl rMulAll fMul := by
  intro F α μ H H0 x y rx ry z Q C h1 h2 hz k
  unfold fMul at hz
  split at hz
  · rename_i i j
    split at hz
    · rename_i hc
      cases hz
      exact .inl ⟨i, j, rep_int h1, rep_int h2, cMul_ok hc, k _ F H Evo.refl C (.int _)⟩
    · cases hz
  · rename_i n _
    split at hz
    · rename_i xs e1
      split at hz
      · rename_i hl
        cases hz
        obtain ⟨p, vs, rfl, q1, q2⟩ := lstOf_ok C h1 e1
        have hn : n.toNat ≤ 1000 := by omega
        refine .inr ⟨p, n, vs, rfl, rep_int h2, q1, by omega, by omega, ?_, fun l hl' => ?_⟩
        · rw [q2.length]
          exact Nat.le_trans (Nat.mul_le_mul hl.2.2 hn) (by decide)
        · obtain ⟨e3, c3, r3⟩ := C.newL hl' (q2.flat n.toNat)
          exact k _ _ _ e3 c3 r3
      · cases hz
    · cases hz
  · cases hz
theorem se_mul (ha : SE X cl a ma) (hb : SE X cl b mb) : SE X cl (.BinOp a .Mult b pos) (mOp fMul ma mb) := se_op op_mulAll sem_mul ha hb

def intsOf : List D → Option (List Int)
  | [] => some []
  | .int i :: r => match intsOf r with
    | some is => some (i :: is)
    | none => none
  | _ => none
theorem intsOf_map : ∀ {xs : List D} {ns : List Int}, intsOf xs = some ns → xs = ns.map D.int
  | [], _, h => by
    cases h
    rfl
  | .int i :: r, ns, h => by
    unfold intsOf at h
    split at h
    · rename_i is h'
      cases h
      rw [intsOf_map h']
      rfl
    · cases h
  | .non :: _, _, h => by cases h
  | .bl _ :: _, _, h => by cases h
  | .str _ :: _, _, h => by cases h
  | .tup _ :: _, _, h => by cases h
  | .lst _ :: _, _, h => by cases h
  | .scr _ :: _, _, h => by cases h
  | .ins _ _ :: _, _, h => by cases h
@[simp] def fLt : R → R → Mu → Option R
  | .dat (.int i), .dat (.int j), _ => some (.dat (.bl (decide (i < j))))
  | .dat (.tup xs), .dat (.tup ys), _ => match intsOf xs, intsOf ys with
    | some ns, some ms => some (.dat (.bl (HT.lexLt ns ms)))
    | _, _ => none
  | _, _, _ => none
def rLtAll (K : PySem.W.Frag) : R2 := fun x y H Q => rI0 (fun i j => .bl (decide (i < j))) x y H Q ∨ rLtT K x y H Q
theorem op_ltAll (hu : X.A.units < cLine) : OpR X (compareOp .Lt) (rLtAll X.K) := OpR.or op_lt (op_ltT hu)
theorem sem_lt : OpSem K cl (rLtAll K) fLt := by
  intro F α μ H H0 x y rx ry z Q C h1 h2 hz k
  unfold fLt at hz
  split at hz
  · rename_i i j
    cases hz
    exact .inl ⟨i, j, rep_int h1, rep_int h2, k _ F H Evo.refl C (.bl _)⟩
  · rename_i xs ys
    split at hz
    · rename_i ns ms e1 e2
      cases hz
      rw [intsOf_map e1] at h1
      rw [intsOf_map e2] at h2
      cases h1 with
      | tup q1 q2 =>
        cases h2 with
        | tup q1' q2' =>
          rw [q2.of_ints] at q1
          rw [q2'.of_ints] at q1'
          exact .inr ⟨_, _, ns, ms, rfl, rfl, Same.sqT C.sub q1, Same.sqT C.sub q1', k _ F H Evo.refl C (.bl _)⟩
    · cases hz
  · cases hz
theorem se_lt (hu : X.A.units < cLine) (ha : SE X cl a ma) (hb : SE X cl b mb) : SE X cl (.Compare a [.Lt] [b] pos) (mOp fLt ma mb) := se_cmp (op_ltAll hu) sem_lt ha hb (nomark _)
theorem st_lt (hu : X.A.units < cLine) (ha : SE X cl a ma) (hb : SE X cl b mb) : ST X cl (.Compare a [.Lt] [b] pos) (mB (mOp fLt ma mb)) := st_cmp (op_ltAll hu) sem_lt ha hb (nomark _)
theorem se_le (ha : SE X cl a ma) (hb : SE X cl b mb) : SE X cl (.Compare a [.LtE] [b] pos) (mOp fLeI ma mb) := se_cmp op_le (sem_I0 fun _ _ _ => .bl _) ha hb (nomark _)
theorem st_le (ha : SE X cl a ma) (hb : SE X cl b mb) : ST X cl (.Compare a [.LtE] [b] pos) (mB (mOp fLeI ma mb)) := st_cmp op_le (sem_I0 fun _ _ _ => .bl _) ha hb (nomark _)
theorem se_gt (ha : SE X cl a ma) (hb : SE X cl b mb) : SE X cl (.Compare a [.Gt] [b] pos) (mOp fGtI ma mb) := se_cmp op_gt (sem_I0 fun _ _ _ => .bl _) ha hb (nomark _)
theorem st_gt (ha : SE X cl a ma) (hb : SE X cl b mb) : ST X cl (.Compare a [.Gt] [b] pos) (mB (mOp fGtI ma mb)) := st_cmp op_gt (sem_I0 fun _ _ _ => .bl _) ha hb (nomark _)
theorem se_ge (ha : SE X cl a ma) (hb : SE X cl b mb) : SE X cl (.Compare a [.GtE] [b] pos) (mOp fGeI ma mb) := se_cmp op_ge (sem_I0 fun _ _ _ => .bl _) ha hb (nomark _)
theorem st_ge (ha : SE X cl a ma) (hb : SE X cl b mb) : ST X cl (.Compare a [.GtE] [b] pos) (mB (mOp fGeI ma mb)) := st_cmp op_ge (sem_I0 fun _ _ _ => .bl _) ha hb (nomark _)
theorem se_lele (ha : SE X cl a ma) (hb : SE X cl b mb) (hc : SE X cl c mc) (hm : lastMarks [CmpOp.LtE, CmpOp.LtE] [b, c] = false := by rfl) : SE X cl (.Compare a [.LtE, .LtE] [b, c] pos) (mChain fLeI fLeI ma mb mc) := se_chain (sem_I0 fun _ _ _ => .bl _) (sem_I0 fun _ _ _ => .bl _) (pe_chain op_le op_le ha hb hc (hm := hm))
theorem st_lele (ha : SE X cl a ma) (hb : SE X cl b mb) (hc : SE X cl c mc) (hm : lastMarks [CmpOp.LtE, CmpOp.LtE] [b, c] = false := by rfl) : ST X cl (.Compare a [.LtE, .LtE] [b, c] pos) (mB (mChain fLeI fLeI ma mb mc)) := st_chain (sem_I0 fun _ _ _ => .bl _) (sem_I0 fun _ _ _ => .bl _) (pt_chain op_le op_le ha hb hc (hm := hm))
theorem se_lelt (ha : SE X cl a ma) (hb : SE X cl b mb) (hc : SE X cl c mc) (hm : lastMarks [CmpOp.LtE, CmpOp.Lt] [b, c] = false := by rfl) : SE X cl (.Compare a [.LtE, .Lt] [b, c] pos) (mChain fLeI fLtI ma mb mc) := se_chain (sem_I0 fun _ _ _ => .bl _) (sem_I0 fun _ _ _ => .bl _) (pe_chain op_le op_lt ha hb hc (hm := hm))
theorem st_lelt (ha : SE X cl a ma) (hb : SE X cl b mb) (hc : SE X cl c mc) (hm : lastMarks [CmpOp.LtE, CmpOp.Lt] [b, c] = false := by rfl) : ST X cl (.Compare a [.LtE, .Lt] [b, c] pos) (mB (mChain fLeI fLtI ma mb mc)) := st_chain (sem_I0 fun _ _ _ => .bl _) (sem_I0 fun _ _ _ => .bl _) (pt_chain op_le op_lt ha hb hc (hm := hm))

mutual
def toPy : D → Option PyData
  | .non => some .none
  | .bl b => some (.bool b)
  | .int i => some (.int i)
  | .str x => some (.str x)
  | .tup xs => match toPys xs with
    | some ps => some (.tuple ps)
    | none => none
  | .lst xs => match toPys xs with
    | some ps => some (.list ps)
    | none => none
  | .scr ns => none
  | .ins _ _ => none
def toPys : List D → Option (List PyData)
  | [] => some []
  | d :: ds => match toPy d, toPys ds with
    | some p, some ps => some (p :: ps)
    | _, _ => none
end
mutual
theorem toPy_ok {F H : Hp} (sm : Same F H) : ∀ {v : V} {d : D} {p : PyData}, Rep K cl F v d → toPy d = some p → Dp K H v p
  | _, _, _, .non, h => by cases h; exact .non
  | _, _, _, .bl b, h => by cases h; exact .bl b
  | _, _, _, .int i, h => by cases h; exact .int i
  | _, _, _, .str x, h => by cases h; exact .str x
  | _, _, _, .tup h1 h2, h => by
    unfold toPy at h
    split at h
    · rename_i ps e
      cases h
      exact .tup (Same.sqT sm h1) (toPys_ok sm h2 e)
    · cases h
  | _, _, _, .lst h1 h2, h => by
    unfold toPy at h
    split at h
    · rename_i ps e
      cases h
      exact .lst (SqL.of (sm _ _ h1)) (toPys_ok sm h2 e)
    · cases h
  | _, _, _, .scr h1, h => by cases h
  | _, _, _, .ins h1 h2 h3, h => by cases h
theorem toPys_ok {F H : Hp} (sm : Same F H) : ∀ {vs : List V} {ds : List D} {ps : List PyData}, Reps K cl F vs ds → toPys ds = some ps → DpAll K H vs ps
  | _, _, _, .nil, h => by cases h; exact .nil
  | _, _, _, .cons r q, h => by
    unfold toPys at h
    split at h
    · rename_i p ps e1 e2
      cases h
      exact .cons (toPy_ok sm r e1) (toPys_ok sm q e2)
    · cases h
end
/-- a result as data -/
def rPy : R → Mu → Option PyData
  | .dat d, _ => toPy d
  | .fr xs, _ => match toPys xs with
    | some ps => some (.list ps)
    | none => none
  | .cel k, μ => match μ[k]? with
    | some (.l xs) => match toPys xs with
      | some ps => some (.list ps)
      | none => none
    | _ => none
  | _, _ => none
theorem rPy_ok {F H H0 : Hp} {α : List Addr} {μ : Mu} {x : V} {r : R} {p : PyData} (C : Conc K cl F α μ H) (h : RepR K cl H0 F α H x r) (q : rPy r μ = some p) : Dp K H x p := by
  cases r with
  | no => cases q
  | fc c => cases q
  | dat d => exact toPy_ok C.sub h q
  | cel k =>
    obtain ⟨a, h1, rfl⟩ := h
    dsimp only [rPy] at q
    split at q
    · rename_i xs e
      split at q
      · rename_i ps e2
        cases q
        obtain ⟨vs, h2, h3⟩ := cell_at C h1 e
        exact .lst (SqL.of h2) (toPys_ok C.sub h3 e2)
      · cases q
    · cases q
  | fr zs =>
    obtain ⟨a, vs, rfl, _, _, _, h5, h6⟩ := h
    dsimp only [rPy] at q
    split at q
    · rename_i ps e2
      cases q
      exact .lst (SqL.of h5) (toPys_ok C.sub h6 e2)
    · cases q
@[simp] def fEq (neg : Bool) : R → R → Mu → Option R
  | .dat (.int i), .dat (.int j), _ => some (.dat (.bl (xor neg (decide (i = j)))))
  | .dat (.str i), .dat (.str j), _ => some (.dat (.bl (xor neg (decide (i = j)))))
  | .dat (.bl i), .dat (.bl j), _ => some (.dat (.bl (xor neg (decide (i = j)))))
  | x, y, μ => match rPy x μ, rPy y μ with
    | some p, some q => if SeqAt.shaped p && SeqAt.shaped q then some (.dat (.bl (xor neg (PyData.eqv p q)))) else none
    | _, _ => none
def rEqAll (K : PySem.W.Frag) : R2 := fun x y H Q => rEq x y H Q ∨ rEqD K x y H Q
def rNeAll (K : PySem.W.Frag) : R2 := fun x y H Q => rNe x y H Q ∨ rNeD K x y H Q
theorem op_eqAll (hu : X.A.units + 64 < cLine) : OpR X (compareOp .Eq) (rEqAll X.K) := OpR.or op_eq (op_eqD hu)
theorem op_neAll (hu : X.A.units + 64 < cLine) : OpR X (compareOp .NotEq) (rNeAll X.K) := OpR.or op_ne (op_neD hu)
theorem dec_inj {α β : Type} [DecidableEq α] [DecidableEq β] (g : α → β) (hg : ∀ i j, g i = g j → i = j) (i j : α) : decide (g i = g j) = decide (i = j) := by
  by_cases h : i = j
  · subst h
    simp
  · rw [decide_eq_false h, decide_eq_false fun z => h (hg _ _ z)]
theorem sem_eq : OpSem K cl (rEqAll K) (fEq false) := by
  intro F α μ H H0 x y rx ry z Q C h1 h2 hz k
  unfold fEq at hz
  split at hz
  · rename_i i j
    cases hz
    rw [rep_int h1, rep_int h2]
    refine .inl ⟨rfl, ?_⟩
    rw [dec_inj V.int (fun _ _ h => V.int.inj h)]
    exact k _ F H Evo.refl C (by rw [Bool.false_xor]; exact .bl _)
  · rename_i i j
    cases hz
    rw [rep_str h1, rep_str h2]
    refine .inl ⟨rfl, ?_⟩
    rw [dec_inj V.str (fun _ _ h => V.str.inj h)]
    exact k _ F H Evo.refl C (by rw [Bool.false_xor]; exact .bl _)
  · rename_i i j
    cases hz
    rw [rep_bl h1, rep_bl h2]
    refine .inl ⟨rfl, ?_⟩
    rw [dec_inj V.bl (fun _ _ h => V.bl.inj h)]
    exact k _ F H Evo.refl C (by rw [Bool.false_xor]; exact .bl _)
  · split at hz
    · rename_i p q e1 e2
      split at hz
      · rename_i hs
        cases hz
        rw [Bool.and_eq_true] at hs
        exact .inr ⟨p, q, rPy_ok C h1 e1, rPy_ok C h2 e2, hs.1, hs.2, k _ F H Evo.refl C (by rw [Bool.false_xor]; exact .bl _)⟩
      · cases hz
    · cases hz
theorem sem_ne : OpSem K cl (rNeAll K) (fEq true) := by
  intro F α μ H H0 x y rx ry z Q C h1 h2 hz k
  unfold fEq at hz
  split at hz
  · rename_i i j
    cases hz
    rw [rep_int h1, rep_int h2]
    refine .inl ⟨rfl, ?_⟩
    rw [dec_inj V.int (fun _ _ h => V.int.inj h)]
    exact k _ F H Evo.refl C (by rw [Bool.true_xor]; exact .bl _)
  · rename_i i j
    cases hz
    rw [rep_str h1, rep_str h2]
    refine .inl ⟨rfl, ?_⟩
    rw [dec_inj V.str (fun _ _ h => V.str.inj h)]
    exact k _ F H Evo.refl C (by rw [Bool.true_xor]; exact .bl _)
  · rename_i i j
    cases hz
    rw [rep_bl h1, rep_bl h2]
    refine .inl ⟨rfl, ?_⟩
    rw [dec_inj V.bl (fun _ _ h => V.bl.inj h)]
    exact k _ F H Evo.refl C (by rw [Bool.true_xor]; exact .bl _)
  · split at hz
    · rename_i p q e1 e2
      split at hz
      · rename_i hs
        cases hz
        rw [Bool.and_eq_true] at hs
        exact .inr ⟨p, q, rPy_ok C h1 e1, rPy_ok C h2 e2, hs.1, hs.2, k _ F H Evo.refl C (by rw [Bool.true_xor]; exact .bl _)⟩
      · cases hz
    · cases hz
theorem se_eq (hu : X.A.units + 64 < cLine) (ha : SE X cl a ma) (hb : SE X cl b mb) : SE X cl (.Compare a [.Eq] [b] pos) (mOp (fEq false) ma mb) := se_cmp (op_eqAll hu) sem_eq ha hb (nomark _)
theorem st_eq (hu : X.A.units + 64 < cLine) (ha : SE X cl a ma) (hb : SE X cl b mb) : ST X cl (.Compare a [.Eq] [b] pos) (mB (mOp (fEq false) ma mb)) := st_cmp (op_eqAll hu) sem_eq ha hb (nomark _)
theorem se_ne (hu : X.A.units + 64 < cLine) (ha : SE X cl a ma) (hb : SE X cl b mb) : SE X cl (.Compare a [.NotEq] [b] pos) (mOp (fEq true) ma mb) := se_cmp (op_neAll hu) sem_ne ha hb (nomark _)
theorem st_ne (hu : X.A.units + 64 < cLine) (ha : SE X cl a ma) (hb : SE X cl b mb) : ST X cl (.Compare a [.NotEq] [b] pos) (mB (mOp (fEq true) ma mb)) := st_cmp (op_neAll hu) sem_ne ha hb (nomark _)

@[simp] def fIsN (neg : Bool) : R → R → Mu → Option R
  | .dat .non, .dat .non, _ => some (.dat (.bl (!neg)))
  | .no, _, _ => none
  | _, .dat .non, _ => some (.dat (.bl neg))
  | _, _, _ => none
theorem isN_of {F H H0 : Hp} {α : List Addr} {v : V} {r : R} (h : RepR K cl H0 F α H v r) (hr : r ≠ .dat .non) : decide (v = .non) = false := by
  refine decide_eq_false fun z => ?_
  subst z
  cases r with
  | no => exact h
  | dat d =>
    cases h
    exact hr rfl
  | cel k =>
    obtain ⟨_, _, h⟩ := h
    cases h
  | fr xs =>
    obtain ⟨_, _, h, _⟩ := h
    cases h
  | fc c =>
    obtain ⟨_, h, _⟩ := h
    cases h
theorem rep_non {F : Hp} {v : V} (h : Rep K cl F v .non) : v = .non := by
  cases h
  rfl
theorem sem_isN : OpSem K cl (fun x y H Q => y = .non ∧ Q (.bl (decide (x = .non))) H) (fIsN false) := by
  intro F α μ H H0 x y rx ry z Q C h1 h2 hz k
  unfold fIsN at hz
  split at hz
  · cases hz
    refine ⟨rep_non h2, ?_⟩
    rw [rep_non h1]
    exact k _ F H Evo.refl C (.bl _)
  · cases hz
  · rename_i h3 h4
    cases hz
    refine ⟨rep_non h2, ?_⟩
    rw [isN_of h1 (fun z => h3 z)]
    exact k _ F H Evo.refl C (.bl _)
  · cases hz
theorem sem_notN : OpSem K cl (fun x y H Q => y = .non ∧ Q (.bl (!decide (x = .non))) H) (fIsN true) := by
  intro F α μ H H0 x y rx ry z Q C h1 h2 hz k
  unfold fIsN at hz
  split at hz
  · cases hz
    refine ⟨rep_non h2, ?_⟩
    rw [rep_non h1]
    exact k _ F H Evo.refl C (.bl _)
  · cases hz
  · rename_i h3 h4
    cases hz
    refine ⟨rep_non h2, ?_⟩
    rw [isN_of h1 (fun z => h3 z)]
    exact k _ F H Evo.refl C (.bl _)
  · cases hz
theorem se_isN (ha : SE X cl a ma) (hb : SE X cl b mb) : SE X cl (.Compare a [.Is] [b] pos) (mOp (fIsN false) ma mb) := se_cmp op_isN sem_isN ha hb (nomark _)
theorem st_isN (ha : SE X cl a ma) (hb : SE X cl b mb) : ST X cl (.Compare a [.Is] [b] pos) (mB (mOp (fIsN false) ma mb)) := st_cmp op_isN sem_isN ha hb (nomark _)
theorem se_notN (ha : SE X cl a ma) (hb : SE X cl b mb) : SE X cl (.Compare a [.IsNot] [b] pos) (mOp (fIsN true) ma mb) := se_cmp op_notN sem_notN ha hb (nomark _)
theorem st_notN (ha : SE X cl a ma) (hb : SE X cl b mb) : ST X cl (.Compare a [.IsNot] [b] pos) (mB (mOp (fIsN true) ma mb)) := st_cmp op_notN sem_notN ha hb (nomark _)
end
end DL
set_option Elab.async false
set_option linter.all false
set_option maxRecDepth 100000
set_option maxHeartbeats 1000000
namespace DL
open PySem L2
section
variable {X : Cx} {cl : Nat → Addr} {e a b c : Expr} {es : List Expr} {m ma mb mc : ME} {pos p : Pos} {K : PySem.W.Frag}

@[simp] def fIx : R → R → Mu → Option R
  | x, .dat (.int i), μ => match sqOf x μ with
    | some q => match atI q.all i with
      | some d => some (.dat d)
      | none => none
    | none => none
  | _, _, _ => none
theorem atI_reps {F : Hp} {vs : List V} {xs : List D} {i : Int} {d : D} (h : Reps K cl F vs xs) (q : atI xs i = some d) : ∃ v, atI vs i = some v ∧ Rep K cl F v d := by
  unfold atI at q ⊢
  rw [h.length]
  cases e : ixN xs.length i with
  | none =>
    rw [e] at q
    cases q
  | some j =>
    rw [e] at q
    obtain ⟨v, h1, h2⟩ := h.get (i := j) q
    exact ⟨v, h1, h2⟩
theorem sem_ix : OpSem K cl (rIx K) fIx := by
  intro F α μ H H0 x y rx ry z Q C h1 h2 hz k
  unfold fIx at hz
  split at hz
  · rename_i i
    split at hz
    · rename_i q e1
      split at hz
      · rename_i d e2
        cases hz
        obtain ⟨ad, vs, rfl, q1, q2⟩ := sqOf_ok C h1 e1
        obtain ⟨v, e3, q3⟩ := atI_reps q1 e2
        cases q with
        | l xs => exact .inl ⟨ad, vs, i, v, rfl, rep_int h2, q2, e3, k _ F H Evo.refl C q3⟩
        | t xs => exact .inr (.inl ⟨ad, vs, i, v, rfl, rep_int h2, q2, e3, k _ F H Evo.refl C q3⟩)
      · cases hz
    · cases hz
  · cases hz
theorem se_ix (ha : SE X cl a ma) (hb : SE X cl b mb) (hs : PlainIx b := by exact fun _ _ => rfl) : SE X cl (.Subscript a b pos) (mOp fIx ma mb) := PE.weak (pe_ix ix_seq ha hb hs) (op_imp sem_ix)

abbrev MO := Sl → Mu → Option (Option Int × Mu)
def tmo (K : PySem.W.Frag) (cl : Nat → Addr) (m : MO) : TO := fun σ H Q => ∃ F α δ μ o μ', Conc K cl F α μ H ∧ EnvOk K cl F α σ δ ∧ m δ μ = some (o, μ') ∧
  ∀ F' H', Evo F α H F' α H' → Conc K cl F' α μ' H' → Q o H'
abbrev SO (X : Cx) (cl : Nat → Addr) (e : Option Expr) (m : MO) : Prop := PO X e (tmo X.K cl m)
@[simp] def mNo : MO := fun _ μ => some (none, μ)
@[simp] def mSo (m : ME) : MO := fun δ μ => match m δ μ with
  | some (.dat (.int i), μ') => some (some i, μ')
  | _ => none
theorem so_none : SO X cl none mNo := by
  refine ⟨fun pins s σ H Q I h => po_none.run pins s σ H Q I ?_⟩
  obtain ⟨F, α, δ, μ, o, μ', C, Ee, hm, k⟩ := h
  cases hm
  exact k F H Evo.refl C
theorem so_some (h : SE X cl e m) : SO X cl (some e) (mSo m) := by
  refine ⟨fun pins s σ H Q I hw => (po_some h).run pins s σ H Q I ?_⟩
  obtain ⟨F, α, δ, μ, o, μ', C, Ee, hm, k⟩ := hw
  unfold mSo at hm
  split at hm
  · rename_i i μ1 h0
    cases hm
    exact ⟨F, α, δ, μ, _, μ', C, Ee, h0, fun v F1 H1 e1 c1 r1 => ⟨i, rep_int r1, k F1 H1 e1 c1⟩⟩
  · cases hm
def cutD (xs : List D) (lo hi : Option Int) : List D := (xs.drop (HT.sIx xs.length 0 lo)).take (HT.sIx xs.length xs.length hi - HT.sIx xs.length 0 lo)
theorem cut_reps {F : Hp} {vs : List V} {xs : List D} (h : Reps K cl F vs xs) (lo hi : Option Int) : Reps K cl F (cutV vs lo hi) (cutD xs lo hi) := by
  unfold cutV cutD
  rw [h.length]
  exact (h.drop _).take _
@[simp] def mSl (m : ME) (ml mh : MO) : ME := fun δ μ => match m δ μ with
  | none => none
  | some (x, μ1) => match ml δ μ1 with
    | none => none
    | some (lo, μ2) => match mh δ μ2 with
      | none => none
      | some (hi, μ3) => match sqOf x μ3 with
        | some (.l xs) => some (.fr (cutD xs lo hi), μ3)
        | some (.t xs) => some (.dat (.tup (cutD xs lo hi)), μ3)
        | none => none
theorem se_slice {lo hi : Option Expr} {ml mh : MO} {p2 : Pos} (h : SE X cl e m) (hl : SO X cl lo ml) (hh : SO X cl hi mh) : SE X cl (.Subscript e (.Slice lo hi none p2) pos) (mSl m ml mh) := by
  refine PE.weak (pe_slice (SlR.or sl_list sl_tupA) h hl hh) fun σ H Q ⟨F, α, δ, μ, z, μ', C, Ee, hm, k⟩ => ?_
  unfold mSl at hm
  split at hm
  · cases hm
  rename_i x1 μ1 h1
  split at hm
  · cases hm
  rename_i lo' μ2 h2
  split at hm
  · cases hm
  rename_i hi' μ3 h3
  refine ⟨F, α, δ, μ, x1, μ1, C, Ee, h1, fun v F1 H1 e1 c1 r1 => ⟨F1, α, δ, μ1, lo', μ2, c1, Ee.step e1, h2, fun F2 H2 e2 c2 => ⟨F2, α, δ, μ2, hi', μ3, c2, (Ee.step e1).step e2, h3, fun F3 H3 e3 c3 => ?_⟩⟩⟩
  have r3 := r1.step (e2.trans e3)
  split at hm
  · rename_i xs e4
    cases hm
    obtain ⟨ad, vs, rfl, q1, q2⟩ := sqOf_ok c3 r3 e4
    refine .inl ⟨ad, vs, rfl, q2, fun l hl' => ?_⟩
    obtain ⟨e5, c5, r5⟩ := c3.newL hl' (cut_reps q1 lo' hi')
    exact k _ _ _ (e1.trans (e2.trans (e3.trans e5))) c5 (r5.back fun p hp => e1.dom p (e2.dom p (e3.dom p hp)))
  · rename_i xs e4
    cases hm
    obtain ⟨ad, vs, rfl, q1, q2⟩ := sqOf_ok c3 r3 e4
    have q2' : SqT X.K H3 ad vs := q2
    have cr := cut_reps q1 lo' hi'
    refine .inr ⟨ad, vs, rfl, q2', fun hz => ?_, fun _ l hl' => ?_⟩
    · have e6 : cutD xs lo' hi' = xs := by
        unfold cutD
        have l1 : vs.length = xs.length := q1.length
        rw [l1] at hz
        rw [hz.1, hz.2, List.drop_zero, Nat.sub_zero, List.take_length]
      rw [e6] at k
      refine k _ F3 H3 (e1.trans (e2.trans e3)) c3 ?_
      -- the tuple itself: its place is known already by the value
      cases x1 with
      | no => exact absurd e4 (by simp [sqOf, lstOf])
      | cel j =>
        simp only [sqOf] at e4
        cases e7 : lstOf (.cel j) μ' with
        | none =>
          rw [e7] at e4
          cases e4
        | some w =>
          rw [e7] at e4
          cases e4
      | fr ys => exact absurd e4 (by simp [sqOf, lstOf])
      | fc c => exact absurd e4 (by simp [sqOf, lstOf])
      | dat d =>
        cases d with
        | tup ys =>
          have e8 : ys = xs := by
            simp only [sqOf] at e4
            cases e4
            rfl
          rw [← e8]
          exact r3
        | lst ys => exact absurd e4 (by simp [sqOf, lstOf])
        | scr ys => exact absurd e4 (by simp [sqOf])
        | non => exact absurd e4 (by simp [sqOf, lstOf])
        | bl _ => exact absurd e4 (by simp [sqOf, lstOf])
        | int _ => exact absurd e4 (by simp [sqOf, lstOf])
        | str _ => exact absurd e4 (by simp [sqOf, lstOf])
        | ins _ _ => exact absurd e4 (by simp [sqOf, lstOf])
    · obtain ⟨e5, c5⟩ := c3.new (o := .tup _) hl'
      exact k _ _ _ (e1.trans (e2.trans (e3.trans e5))) c5 (.tup (SqT.of upd_same) (cr.mono e5.ff))
  · cases hm

def CbSem (K : PySem.W.Frag) (cl : Nat → Addr) (r : List V → Hp → VK → Prop) (f : List R → Mu → Option R) : Prop := ∀ (F : Hp) (α : List Addr) (μ : Mu) (H : Hp) (vs : List V) (rs : List R) (z : R) (Q : VK), Conc K cl F α μ H → ArgRs K cl F α vs rs → f rs μ = some z →
  (∀ v F' H', Evo F α H F' α H' → Conc K cl F' α μ H' → RepR K cl H F' α H' v z → Q v H') → r vs H Q
@[simp] def mCb (f : List R → Mu → Option R) (ms : MA) : ME := fun δ μ => match ms δ μ with
  | none => none
  | some (rs, μ1) => match f rs μ1 with
    | none => none
    | some z => some (z, μ1)
theorem se_cb {r : List V → Hp → VK → Prop} {f : List R → Mu → Option R} {ms : MA} (h : PE X e (tCB r (tma X.K cl ms))) (hf : CbSem X.K cl r f) : SE X cl e (mCb f ms) := by
  refine PE.weak h fun σ H Q ⟨F, α, δ, μ, z, μ', C, Ee, hm, k⟩ => ?_
  unfold mCb at hm
  split at hm
  · cases hm
  rename_i rs μ1 h1
  split at hm
  · cases hm
  rename_i z1 h2
  cases hm
  refine ⟨F, α, δ, μ, rs, μ', C, Ee, h1, fun vs F1 H1 e1 c1 q1 => ?_⟩
  exact hf F1 α μ' H1 vs rs z Q c1 q1 h2 fun v F2 H2 e2 c2 r2 => k v F2 H2 (e1.trans e2) c2 (r2.back e1.dom)
theorem args1 {F : Hp} {α : List Addr} {vs : List V} {r : R} (h : ArgRs K cl F α vs [r]) : ∃ v, vs = [v] ∧ ArgR K cl F α v r := by
  cases h with
  | cons h1 h2 =>
    cases h2
    exact ⟨_, rfl, h1⟩
theorem args2 {F : Hp} {α : List Addr} {vs : List V} {r s : R} (h : ArgRs K cl F α vs [r, s]) : ∃ v w, vs = [v, w] ∧ ArgR K cl F α v r ∧ ArgR K cl F α w s := by
  cases h with
  | cons h1 h2 =>
    obtain ⟨w, rfl, h3⟩ := args1 h2
    exact ⟨_, w, rfl, h1, h3⟩
theorem argR_rep {F H H0 : Hp} {α : List Addr} {v : V} {r : R} (h : ArgR K cl F α v r) : RepR K cl H0 F α H v r := by
  cases r with
  | no => exact h
  | dat d => exact h
  | cel k => exact h
  | fr xs => exact h.elim
  | fc c => exact h.elim
@[simp] def fAbs : List R → Mu → Option R
  | [.dat (.int i)], _ => some (.dat (.int (if i < 0 then -i else i)))
  | _, _ => none
theorem sem_abs : CbSem K cl (fun xs H Q => ∃ i, xs = [.int i] ∧ Q (.int (if i < 0 then -i else i)) H) fAbs := by
  intro F α μ H vs rs z Q C h hz k
  unfold fAbs at hz
  split at hz
  · rename_i i
    cases hz
    obtain ⟨v, rfl, h1⟩ := args1 h
    exact ⟨i, by rw [rep_int h1], k _ F H Evo.refl C (.int _)⟩
  · cases hz
@[simp] def fMin : List R → Mu → Option R
  | [.dat (.int i), .dat (.int j)], _ => some (.dat (.int (if j < i then j else i)))
  | _, _ => none
@[simp] def fMax : List R → Mu → Option R
  | [.dat (.int i), .dat (.int j)], _ => some (.dat (.int (if j > i then j else i)))
  | _, _ => none
theorem sem_min : CbSem K cl (fun xs H Q => ∃ i j, xs = [.int i, .int j] ∧ Q (.int (if j < i then j else i)) H) fMin := by
  intro F α μ H vs rs z Q C h hz k
  unfold fMin at hz
  split at hz
  · rename_i i j
    cases hz
    obtain ⟨v, w, rfl, h1, h2⟩ := args2 h
    exact ⟨i, j, by rw [rep_int h1, rep_int h2], k _ F H Evo.refl C (.int _)⟩
  · cases hz
theorem sem_max : CbSem K cl (fun xs H Q => ∃ i j, xs = [.int i, .int j] ∧ Q (.int (if j > i then j else i)) H) fMax := by
  intro F α μ H vs rs z Q C h hz k
  unfold fMax at hz
  split at hz
  · rename_i i j
    cases hz
    obtain ⟨v, w, rfl, h1, h2⟩ := args2 h
    exact ⟨i, j, by rw [rep_int h1, rep_int h2], k _ F H Evo.refl C (.int _)⟩
  · cases hz
@[simp] def fInt : List R → Mu → Option R
  | [.dat (.int i)], _ => some (.dat (.int i))
  | [.dat (.bl k)], _ => some (.dat (.int (if k then 1 else 0)))
  | _, _ => none
theorem sem_int : CbSem K cl (fun xs H Q => (∃ i, xs = [.int i] ∧ Q (.int i) H) ∨ ∃ k, xs = [.bl k] ∧ Q (.int (if k then 1 else 0)) H) fInt := by
  intro F α μ H vs rs z Q C h hz k
  unfold fInt at hz
  split at hz
  · rename_i i
    cases hz
    obtain ⟨v, rfl, h1⟩ := args1 h
    exact .inl ⟨i, by rw [rep_int h1], k _ F H Evo.refl C (.int _)⟩
  · rename_i i
    cases hz
    obtain ⟨v, rfl, h1⟩ := args1 h
    exact .inr ⟨i, by rw [rep_bl h1], k _ F H Evo.refl C (.int _)⟩
  · cases hz
@[simp] def fLen : List R → Mu → Option R
  | [r], μ => match sqOf r μ with
    | some q => some (.dat (.int q.all.length))
    | none => none
  | _, _ => none
theorem sem_len : CbSem K cl (fun xs H Q => ∃ p ys, xs = [.ref p] ∧ (SqL K H p ys ∨ SqT K H p ys) ∧ Q (.int ys.length) H) fLen := by
  intro F α μ H vs rs z Q C h hz k
  unfold fLen at hz
  split at hz
  · rename_i r
    split at hz
    · rename_i q e1
      cases hz
      obtain ⟨v, rfl, h1⟩ := args1 h
      obtain ⟨ad, ws, rfl, q1, q2⟩ := sqOf_ok (H0 := H) C (argR_rep h1) e1
      refine ⟨ad, ws, rfl, ?_, ?_⟩
      · cases q with
        | l xs => exact .inl q2
        | t xs => exact .inr q2
      · rw [q1.length]
        exact k _ F H Evo.refl C (.int _)
    · cases hz
  · cases hz
@[simp] def fList : List R → Mu → Option R
  | [r], μ => match sqOf r μ with
    | some q => some (.fr q.all)
    | none => none
  | _, _ => none
theorem sem_list : CbSem K cl (fun xs H Q => ∃ p ys, xs = [.ref p] ∧ (SqL K H p ys ∨ SqT K H p ys) ∧ ∀ l, H l = none → Q (.ref l) (upd H l (.lst ys))) fList := by
  intro F α μ H vs rs z Q C h hz k
  unfold fList at hz
  split at hz
  · rename_i r
    split at hz
    · rename_i q e1
      cases hz
      obtain ⟨v, rfl, h1⟩ := args1 h
      obtain ⟨ad, ws, rfl, q1, q2⟩ := sqOf_ok (H0 := H) C (argR_rep h1) e1
      refine ⟨ad, ws, rfl, ?_, fun l hl => ?_⟩
      · cases q with
        | l xs => exact .inl q2
        | t xs => exact .inr q2
      · obtain ⟨e5, c5, r5⟩ := C.newL hl q1
        exact k _ _ _ e5 c5 r5
    · cases hz
  · cases hz
@[simp] def fTuple : List R → Mu → Option R
  | [.dat (.tup xs)], _ => some (.dat (.tup xs))
  | [r], μ => match sqOf r μ with
    | some (.l xs) => some (.dat (.tup xs))
    | _ => none
  | _, _ => none
theorem sem_tuple : CbSem K cl (fun xs H Q => ∃ p ys, xs = [.ref p] ∧ ((SqL K H p ys ∧ ∀ l, H l = none → Q (.ref l) (upd H l (.tup ys))) ∨ (SqT K H p ys ∧ Q (.ref p) H))) fTuple := by
  intro F α μ H vs rs z Q C h hz k
  unfold fTuple at hz
  split at hz
  · rename_i xs
    cases hz
    obtain ⟨v, rfl, h1⟩ := args1 h
    cases h1 with
    | tup q1 q2 => exact ⟨_, _, rfl, .inr ⟨Same.sqT C.sub q1, k _ F H Evo.refl C (.tup q1 q2)⟩⟩
  · rename_i r _
    split at hz
    · rename_i xs e1
      cases hz
      obtain ⟨v, rfl, h1⟩ := args1 h
      obtain ⟨ad, ws, rfl, q1, q2⟩ := sqOf_ok (H0 := H) C (argR_rep h1) e1
      refine ⟨ad, ws, rfl, .inl ⟨q2, fun l hl => ?_⟩⟩
      obtain ⟨e5, c5⟩ := C.new (o := .tup ws) hl
      exact k _ _ _ e5 c5 (.tup (SqT.of upd_same) (q1.mono e5.ff))
    · cases hz
  · cases hz
def blsOf : List D → Option (List Bool)
  | [] => some []
  | .bl i :: r => match blsOf r with
    | some is => some (i :: is)
    | none => none
  | _ => none
theorem blsOf_map : ∀ {xs : List D} {bs : List Bool}, blsOf xs = some bs → xs = bs.map D.bl
  | [], _, h => by
    cases h
    rfl
  | .bl i :: r, ns, h => by
    unfold blsOf at h
    split at h
    · rename_i is h'
      cases h
      rw [blsOf_map h']
      rfl
    · cases h
  | .non :: _, _, h => by cases h
  | .int _ :: _, _, h => by cases h
  | .str _ :: _, _, h => by cases h
  | .tup _ :: _, _, h => by cases h
  | .lst _ :: _, _, h => by cases h
  | .scr _ :: _, _, h => by cases h
  | .ins _ _ :: _, _, h => by cases h
theorem Reps.of_bls {F : Hp} : ∀ {bs : List Bool} {vs : List V}, Reps K cl F vs (bs.map D.bl) → vs = bs.map V.bl
  | [], _, h => by
    cases h
    rfl
  | n :: ns, _, h => by
    cases h with
    | cons r q =>
      cases r
      rw [Reps.of_bls q]
      rfl
theorem blsOf_ok {F : Hp} {xs : List D} {bs : List Bool} {vs : List V} (h : blsOf xs = some bs) (q : Reps K cl F vs xs) : vs = bs.map V.bl := by
  rw [blsOf_map h] at q
  exact q.of_bls
@[simp] def fAll : List R → Mu → Option R
  | [r], μ => match lstOf r μ with
    | some xs => match blsOf xs with
      | some bs => some (.dat (.bl (bs.all id)))
      | none => none
    | none => none
  | _, _ => none
@[simp] def fAny : List R → Mu → Option R
  | [r], μ => match lstOf r μ with
    | some xs => match blsOf xs with
      | some bs => some (.dat (.bl (bs.any id)))
      | none => none
    | none => none
  | _, _ => none
theorem sem_all : CbSem K cl (rAll K) fAll := by
  intro F α μ H vs rs z Q C h hz k
  unfold fAll at hz
  split at hz
  · rename_i r
    split at hz
    · rename_i xs e1
      split at hz
      · rename_i bs e2
        cases hz
        obtain ⟨v, rfl, h1⟩ := args1 h
        obtain ⟨ad, ws, rfl, q1, q2⟩ := lstOf_ok (H0 := H) C (argR_rep h1) e1
        rw [blsOf_ok e2 q2] at q1
        exact ⟨ad, bs, rfl, SqL.of q1, k _ F H Evo.refl C (.bl _)⟩
      · cases hz
    · cases hz
  · cases hz
theorem sem_any : CbSem K cl (rAny K) fAny := by
  intro F α μ H vs rs z Q C h hz k
  unfold fAny at hz
  split at hz
  · rename_i r
    split at hz
    · rename_i xs e1
      split at hz
      · rename_i bs e2
        cases hz
        obtain ⟨v, rfl, h1⟩ := args1 h
        obtain ⟨ad, ws, rfl, q1, q2⟩ := lstOf_ok (H0 := H) C (argR_rep h1) e1
        rw [blsOf_ok e2 q2] at q1
        exact ⟨ad, bs, rfl, SqL.of q1, k _ F H Evo.refl C (.bl _)⟩
      · cases hz
    · cases hz
  · cases hz
variable {ms : MA}
theorem se_abs (hm : X.mg "abs" = none) (ha : SA X cl [a] ms) (hg : Gl X "abs" := by rfl) (he : starEach (a :: []) X.env = (false, eval a X.env) :: starEach [] X.env := by rfl) : SE X cl (.Call (.Name "abs" p) [a] [] pos) (mCb fAbs ms) := se_cb (pe_callB call_abs hg hm (by decide +kernel) ha (he := he)) sem_abs
theorem se_int1 (hm : X.mg "int" = none) (ha : SA X cl [a] ms) (hg : Gl X "int" := by rfl) (he : starEach (a :: []) X.env = (false, eval a X.env) :: starEach [] X.env := by rfl) : SE X cl (.Call (.Name "int" p) [a] [] pos) (mCb fInt ms) := se_cb (pe_callTy call_int1 hg hm (by decide +kernel) ha (he := he)) sem_int
theorem se_len (hm : X.mg "len" = none) (ha : SA X cl [a] ms) (hg : Gl X "len" := by rfl) (he : starEach (a :: []) X.env = (false, eval a X.env) :: starEach [] X.env := by rfl) : SE X cl (.Call (.Name "len" p) [a] [] pos) (mCb fLen ms) := se_cb (pe_callB call_len_seq hg hm (by decide +kernel) ha (he := he)) sem_len
theorem se_list (hm : X.mg "list" = none) (ha : SA X cl [a] ms) (hg : Gl X "list" := by rfl) (he : starEach (a :: []) X.env = (false, eval a X.env) :: starEach [] X.env := by rfl) : SE X cl (.Call (.Name "list" p) [a] [] pos) (mCb fList ms) := se_cb (pe_callTy call_list_of hg hm (by decide +kernel) ha (he := he)) sem_list
theorem se_tuple (hm : X.mg "tuple" = none) (ha : SA X cl [a] ms) (hg : Gl X "tuple" := by rfl) (he : starEach (a :: []) X.env = (false, eval a X.env) :: starEach [] X.env := by rfl) : SE X cl (.Call (.Name "tuple" p) [a] [] pos) (mCb fTuple ms) := se_cb (pe_callTy call_tuple_of hg hm (by decide +kernel) ha (he := he)) sem_tuple
theorem se_all (hm : X.mg "all" = none) (ha : SA X cl [a] ms) (hc : X.calm = true := by rfl) (hg : Gl X "all" := by rfl) (he : starEach (a :: []) X.env = (false, eval a X.env) :: starEach [] X.env := by rfl) : SE X cl (.Call (.Name "all" p) [a] [] pos) (mCb fAll ms) := se_cb (pe_callB (cr_all hc) hg hm (by decide +kernel) ha (he := he)) sem_all
theorem se_any (hm : X.mg "any" = none) (ha : SA X cl [a] ms) (hc : X.calm = true := by rfl) (hg : Gl X "any" := by rfl) (he : starEach (a :: []) X.env = (false, eval a X.env) :: starEach [] X.env := by rfl) : SE X cl (.Call (.Name "any" p) [a] [] pos) (mCb fAny ms) := se_cb (pe_callB (cr_any hc) hg hm (by decide +kernel) ha (he := he)) sem_any
theorem se_min (hm : X.mg "min" = none) (ha : SA X cl [a, b] ms) (hc : X.calm = true := by rfl) (hg : Gl X "min" := by rfl) (he : starEach (a :: [b]) X.env = (false, eval a X.env) :: starEach [b] X.env := by rfl) (hpl : (backTo pos (starEach [b] X.env)).any (·.1) = false := by rfl) : SE X cl (.Call (.Name "min" p) [a, b] [] pos) (mCb fMin ms) := se_cb (pe_callB (call_min2 hc) hg hm (by decide +kernel) ha (he := he) (hpl := hpl)) sem_min
theorem se_max (hm : X.mg "max" = none) (ha : SA X cl [a, b] ms) (hc : X.calm = true := by rfl) (hg : Gl X "max" := by rfl) (he : starEach (a :: [b]) X.env = (false, eval a X.env) :: starEach [b] X.env := by rfl) (hpl : (backTo pos (starEach [b] X.env)).any (·.1) = false := by rfl) : SE X cl (.Call (.Name "max" p) [a, b] [] pos) (mCb fMax ms) := se_cb (pe_callB (call_max2 hc) hg hm (by decide +kernel) ha (he := he) (hpl := hpl)) sem_max
end
end DL
set_option Elab.async false
set_option linter.all false
set_option maxRecDepth 100000
set_option maxHeartbeats 1000000
namespace DL
open PySem PySem.Spec PyProof.Rows L2
section
variable {X : Cx} {cl : Nat → Addr} {e a b c : Expr} {es : List Expr} {m ma mb mc : ME} {pos p : Pos} {K : PySem.W.Frag}

theorem Conc.garb {F H : Hp} {α : List Addr} {μ : Mu} {p : Addr} {o : HO} (C : Conc K cl F α μ H) (hp : H p = none) : Evo F α H F α (upd H p o) ∧ Conc K cl F α μ (upd H p o) := by
  refine ⟨⟨Same.refl F, ⟨[], by simp⟩, fun a u h _ => ?_, fun a h => ?_, fun a u h q => (by rw [h] at q; cases q), fun a h q => absurd h q⟩, ⟨fun a u h => ?_, C.len, C.nd, fun k a xs h1 h2 => ?_, C.out⟩⟩
  · rw [upd_ne (ne_of_none h hp)]
    exact h
  · by_cases z : a = p
    · rw [z]
      exact hp
    · rw [upd_ne z] at h
      exact h
  · rw [upd_ne (ne_of_none (C.sub a u h) hp)]
    exact C.sub a u h
  · have q := C.cell k a xs h1 h2
    obtain ⟨u, q1⟩ := q.some
    rw [upd_ne (ne_of_none q1 hp)]
    exact q

@[simp] def tag (μ : Mu) : R → Option String
  | .dat .non => some "NoneType"
  | .dat (.bl _) => some "bool"
  | .dat (.int _) => some "int"
  | .dat (.str _) => some "str"
  | .dat (.tup _) => some "tuple"
  | .dat (.lst _) => some "list"
  | .cel k => match μ[k]? with
    | some (.l _) => some "list"
    | some (.n _) => some "list"
    | _ => none
  | .fr _ => some "list"
  | _ => none
def isB (a b : String) : Bool := a == b || (a == "bool" && b == "int")
theorem tag_ok {F H H0 : Hp} {α : List Addr} {μ : Mu} {v : V} {r : R} {t : String} (C : Conc K cl F α μ H) (h : RepR K cl H0 F α H v r) (q : tag μ r = some t) : TyX K H v (.type t) ∧ (t = "NoneType" ∨ t = "bool" ∨ t = "int" ∨ t = "str" ∨ t = "tuple" ∨ t = "list") := by
  cases r with
  | no => cases q
  | cel k =>
    obtain ⟨a, h1, rfl⟩ := h
    have e : tag μ (.cel k) = match μ[k]? with
      | some (.l _) => some "list"
      | some (.n _) => some "list"
      | _ => none := rfl
    rw [e] at q
    split at q
    · rename_i h3
      cases q
      obtain ⟨vs, h2, _⟩ := C.cell k a _ h1 h3
      exact ⟨.base (.lst h2), by simp⟩
    · rename_i h3
      cases q
      obtain ⟨vs, h2, _⟩ := C.cell k a _ h1 h3
      exact ⟨.base (.lst h2), by simp⟩
    · cases q
  | fc c => cases q
  | fr xs =>
    cases q
    obtain ⟨a, vs, rfl, _, _, _, h5, _⟩ := h
    exact ⟨.base (.lst h5), by simp⟩
  | dat d =>
    cases h with
    | non =>
      cases q
      exact ⟨.base .non, by simp⟩
    | bl b =>
      cases q
      exact ⟨.base (.bl b), by simp⟩
    | int b =>
      cases q
      exact ⟨.base (.int b), by simp⟩
    | str b =>
      cases q
      exact ⟨.base (.str b), by simp⟩
    | lst h1 h2 =>
      cases q
      exact ⟨.base (.lst (C.sub _ _ h1)), by simp⟩
    | tup h1 h2 =>
      cases q
      refine ⟨?_, by simp⟩
      rcases Same.sqT C.sub h1 with (h | ⟨o, h⟩) | ⟨o, its, n, h3, h4, _⟩
      · exact .base (.tup h)
      · exact .fTuple h
      · exact .kTuple h3 h4
    | scr h1 => cases q
    | ins h1 h2 h3 => cases q
theorem kit_isB {t T : String} (ht : t = "NoneType" ∨ t = "bool" ∨ t = "int" ∨ t = "str" ∨ t = "tuple" ∨ t = "list") (hT : T = "bool" ∨ T = "int" ∨ T = "str" ∨ T = "tuple" ∨ T = "list") : PySem.W.kitOne K (.type t) (.type T) = some (isB t T) := by
  refine kit_ty ?_
  rcases ht with rfl | rfl | rfl | rfl | rfl | rfl <;> rcases hT with rfl | rfl | rfl | rfl | rfl <;> decide +kernel
@[simp] def mIsi (T : String) (m : ME) : ME := fun δ μ => match m δ μ with
  | none => none
  | some (r, μ1) => match tag μ1 r with
    | some t => some (.dat (.bl (isB t T)), μ1)
    | none => none
@[simp] def mIsi2 (T U : String) (m : ME) : ME := fun δ μ => match m δ μ with
  | none => none
  | some (r, μ1) => match tag μ1 r with
    | some t => some (.dat (.bl (isB t T || isB t U)), μ1)
    | none => none
abbrev BT (T : String) : Prop := T = "bool" ∨ T = "int" ∨ T = "str" ∨ T = "tuple" ∨ T = "list"
theorem se_isi {T : String} {Ts : Str} {pT : Pos} (hm : X.mg "isinstance" = none) (hmT : X.mg Ts = none) (hT : BT T) (hvT : bootBuiltins Ts = some (.type T)) (he : SE X cl a m) (hg : Gl X "isinstance" := by rfl) (hgT : Gl X Ts := by rfl) (hn : Ts ≠ "__name__" := by decide) (hd : (Ts == ("__debug__" : Str)) = false := by decide)
    (hs : starEach (a :: [.Name Ts pT]) X.env = (false, eval a X.env) :: starEach [.Name Ts pT] X.env := by rfl) (hs2 : starEach (.Name Ts pT :: []) X.env = (false, eval (.Name Ts pT) X.env) :: starEach [] X.env := by rfl) (hpl : (backTo pos (starEach [.Name Ts pT] X.env)).any (·.1) = false := by rfl) :
    SE X cl (.Call (.Name "isinstance" p) [a, .Name Ts pT] [] pos) (mIsi T m) := by
  refine PE.weak (pe_callB call_isi hg hm (by decide +kernel) (pa_cons he (pa_cons (pe_bltn (v := .ty T) hgT hmT hvT rfl hn hd) pa_nil hs2) hs) (he := hs) (hpl := hpl)) fun σ H Q ⟨F, α, δ, μ, z, μ', C, Ee, hm, k⟩ => ?_
  unfold mIsi at hm
  split at hm
  · cases hm
  rename_i r1 μ1 h1
  split at hm
  · rename_i t h2
    cases hm
    refine ⟨F, α, δ, μ, r1, μ', C, Ee, h1, fun v F1 H1 e1 c1 q1 => ?_⟩
    obtain ⟨q2, q3⟩ := tag_ok c1 q1 h2
    exact ⟨v, .ty T, .type t, .type T, _, rfl, .ty T, q2, kit_isB q3 hT, k _ F1 H1 e1 c1 (.bl _)⟩
  · cases hm
theorem se_isi2 {T U : String} {Ts Us : Str} {pT pU pp : Pos} {x1 : Nat} (hm : X.mg "isinstance" = none) (hmT : X.mg Ts = none) (hmU : X.mg Us = none) (hT : BT T) (hU : BT U) (hvT : bootBuiltins Ts = some (.type T)) (hvU : bootBuiltins Us = some (.type U)) (he : SE X cl a m)
    (hg : Gl X "isinstance" := by rfl) (hgT : Gl X Ts := by rfl) (hgU : Gl X Us := by rfl) (hn : Ts ≠ "__name__" := by decide) (hd : (Ts == ("__debug__" : Str)) = false := by decide) (hnU : Us ≠ "__name__" := by decide) (hdU : (Us == ("__debug__" : Str)) = false := by decide)
    (hs : starEach (a :: [.Tuple [.Name Ts pT, .Name Us pU] x1 pp]) X.env = (false, eval a X.env) :: starEach [.Tuple [.Name Ts pT, .Name Us pU] x1 pp] X.env := by rfl)
    (hs2 : starEach (.Tuple [.Name Ts pT, .Name Us pU] x1 pp :: []) X.env = (false, eval (.Tuple [.Name Ts pT, .Name Us pU] x1 pp) X.env) :: starEach [] X.env := by rfl)
    (hs3 : starEach (.Name Ts pT :: [.Name Us pU]) X.env = (false, eval (.Name Ts pT) X.env) :: starEach [.Name Us pU] X.env := by rfl) (hs4 : starEach (.Name Us pU :: []) X.env = (false, eval (.Name Us pU) X.env) :: starEach [] X.env := by rfl)
    (hpl : (backTo pos (starEach [.Tuple [.Name Ts pT, .Name Us pU] x1 pp] X.env)).any (·.1) = false := by rfl) :
    SE X cl (.Call (.Name "isinstance" p) [a, .Tuple [.Name Ts pT, .Name Us pU] x1 pp] [] pos) (mIsi2 T U m) := by
  refine PE.weak (pe_callB call_isiT hg hm (by decide +kernel) (pa_cons he (pa_cons (pe_tup (pa_cons (pe_bltn (v := .ty T) hgT hmT hvT rfl hn hd) (pa_cons (pe_bltn (v := .ty U) hgU hmU hvU rfl hnU hdU) pa_nil hs4) hs3)) pa_nil hs2) hs) (he := hs) (hpl := hpl)) fun σ H Q ⟨F, α, δ, μ, z, μ', C, Ee, hm, k⟩ => ?_
  unfold mIsi2 at hm
  split at hm
  · cases hm
  rename_i r1 μ1 h1
  split at hm
  · rename_i t h2
    cases hm
    refine ⟨F, α, δ, μ, r1, μ', C, Ee, h1, fun v F1 H1 e1 c1 q1 => ?_⟩
    refine ⟨sz_of (show 2 ≤ 100000 by decide), fun tp htp => ?_⟩
    obtain ⟨e2, c2⟩ := c1.garb (o := .tup [.ty T, .ty U]) htp
    obtain ⟨q2, q3⟩ := tag_ok c2 (q1.step e2) h2
    refine ⟨v, tp, [.ty T, .ty U], .type t, [.type T, .type U], isB t T || isB t U, rfl, upd_same, .cons (.ty T) (.cons (.ty U) .nil), q2, ?_, k _ F1 _ (e1.trans e2) c2 (.bl _)⟩
    refine kitAny_cons (kit_isB q3 hT) (fun h => ?_) (fun h => by rw [h]; rfl)
    rw [h]
    exact kitAny_cons (kit_isB q3 hU) (fun h => by rw [h]; rfl) (fun h => by rw [h]; rfl)
  · cases hm

def rgD (a b : Int) : List D := (List.range (b - a).toNat).map fun i => D.int (a + (i : Nat))
theorem rg_reps {F : Hp} (a b : Int) : Reps K cl F (rgV a b) (rgD a b) := by
  unfold rgV rgD
  generalize List.range (b - a).toNat = l
  induction l with
  | nil => exact .nil
  | cons x r ih => exact .cons (.int _) ih
def rgOk (a b : Int) : Bool := decide (-(2 ^ 40) ≤ a ∧ a < 2 ^ 40 ∧ -(2 ^ 40) ≤ b ∧ b < 2 ^ 40 ∧ b - a ≤ 100000)
theorem rgOk_ok {a b : Int} (h : rgOk a b = true) : RgOk a b := by
  unfold rgOk at h
  have := of_decide_eq_true h
  exact ⟨by omega, by omega, by omega, by omega, by omega⟩
@[simp] def mRg1 (m : ME) : ME := fun δ μ => match m δ μ with
  | some (.dat (.int j), μ1) => if rgOk 0 j then some (.fr (rgD 0 j), μ1) else none
  | _ => none
@[simp] def mRg2 (ma mb : ME) : ME := fun δ μ => match ma δ μ with
  | some (.dat (.int i), μ1) => match mb δ μ1 with
    | some (.dat (.int j), μ2) => if rgOk i j then some (.fr (rgD i j), μ2) else none
    | _ => none
  | _ => none
theorem se_rg1 {q q2 : Pos} (hl : X.mg "list" = none) (hr : X.mg "range" = none) (h : SE X cl a m) (hc : X.calm = true := by rfl) (hgl : Gl X "list" := by rfl) (hgr : Gl X "range" := by rfl) (na : starEach [a] X.env = (false, eval a X.env) :: starEach [] X.env := by rfl)
    (nb : starEach [.Call (.Name "range" q) [a] [] q2] X.env = (false, eval (.Call (.Name "range" q) [a] [] q2) X.env) :: starEach [] X.env := by rfl) : SE X cl (.Call (.Name "list" p) [.Call (.Name "range" q) [a] [] q2] [] pos) (mRg1 m) := by
  refine PE.weak (pe_listRg hc hgl hl (prg_1 hgr hr h na) nb) fun σ H Q ⟨F, α, δ, μ, z, μ', C, Ee, hm, k⟩ => ?_
  unfold mRg1 at hm
  split at hm
  · rename_i j μ1 h1
    split at hm
    · rename_i ok
      cases hm
      refine ⟨F, α, δ, μ, _, μ', C, Ee, h1, fun v F1 H1 e1 c1 q1 => ⟨j, rep_int q1, rgOk_ok ok, fun l hl => ?_⟩⟩
      obtain ⟨e5, c5, r5⟩ := c1.newL hl (rg_reps 0 j)
      exact k _ _ _ (e1.trans e5) c5 (r5.back e1.dom)
    · cases hm
  · cases hm
theorem se_rg2 {q q2 : Pos} (hl : X.mg "list" = none) (hr : X.mg "range" = none) (ha : SE X cl a ma) (hb : SE X cl b mb) (hc : X.calm = true := by rfl) (hgl : Gl X "list" := by rfl) (hgr : Gl X "range" := by rfl) (na : starEach [a, b] X.env = (false, eval a X.env) :: starEach [b] X.env := by rfl) (nb' : starEach [b] X.env = (false, eval b X.env) :: starEach [] X.env := by rfl)
    (hp : (backTo q2 (starEach [b] X.env)).any (·.1) = false := by rfl)
    (nb : starEach [.Call (.Name "range" q) [a, b] [] q2] X.env = (false, eval (.Call (.Name "range" q) [a, b] [] q2) X.env) :: starEach [] X.env := by rfl) : SE X cl (.Call (.Name "list" p) [.Call (.Name "range" q) [a, b] [] q2] [] pos) (mRg2 ma mb) := by
  refine PE.weak (pe_listRg hc hgl hl (prg_2 hgr hr ha hb na nb' hp) nb) fun σ H Q ⟨F, α, δ, μ, z, μ', C, Ee, hm, k⟩ => ?_
  unfold mRg2 at hm
  split at hm
  · rename_i i μ1 h1
    split at hm
    · rename_i j μ2 h2
      split at hm
      · rename_i ok
        cases hm
        refine ⟨F, α, δ, μ, _, μ1, C, Ee, h1, fun v F1 H1 e1 c1 q1 => ⟨F1, α, δ, μ1, _, μ', c1, Ee.step e1, h2, fun w F2 H2 e2 c2 q2 => ⟨i, j, rep_int q1, rep_int q2, rgOk_ok ok, fun l hl => ?_⟩⟩⟩
        obtain ⟨e5, c5, r5⟩ := c2.newL hl (rg_reps i j)
        exact k _ _ _ (e1.trans (e2.trans e5)) c5 (r5.back fun p hp => e1.dom p (e2.dom p hp))
      · cases hm
    · cases hm
  · cases hm
end

abbrev MF := List R → Mu → Option (R × Mu)
/-- the cells that stay name no others -/
def lowM (n : Nat) (μ : Mu) : Bool := (μ.take n).all (Cel.low n)
@[simp] theorem lowM_0 (μ : Mu) : lowM 0 μ = true := by
  unfold lowM
  rw [List.take_zero]
  rfl
@[simp] theorem lowM_1 (xs : List D) (μ : Mu) : lowM 1 (.l xs :: μ) = true := by
  unfold lowM
  rw [List.take_succ_cons, List.take_zero]
  rfl
@[simp] def retR (n : Nat) (r : R) (μ : Mu) : Option (R × Mu) := match lowM n μ with
  | false => none
  | true => match r with
    | .cel k => if k < n then some (.cel k, μ.take n) else match μ[k]? with
      | some (.l xs) => some (.fr xs, μ.take n)
      | some c => if c.low n = true then some (.fc c, μ.take n) else none
      | none => none
    | .no => none
    | .dat d => some (.dat d, μ.take n)
    | .fr xs => some (.fr xs, μ.take n)
    | .fc c => if c.low n = true then some (.fc c, μ.take n) else none
@[simp] def mDef (n N : Nat) (body : MS) : MF := fun rs μ => if rs.length = n then
    match body (rs ++ List.replicate (N - n) .no) μ with
    | some (.rt r μ') => retR μ.length r μ'
    | some (.nx _ μ') => retR μ.length (.dat .non) μ'
    | _ => none
  else none
def spM (K : PySem.W.Frag) (cl : Nat → Addr) (n : Nat) (m : MF) : Sp := fun vs H Q _ => ∃ F α μ rs r μ', vs.length = n ∧ Conc K cl F α μ H ∧ ArgRs K cl F α vs rs ∧ m rs μ = some (r, μ') ∧
  ∀ v F' H', Evo F α H F' α H' → Conc K cl F' α μ' H' → RepR K cl H F' α H' v r → Q v H'
section
variable {K : PySem.W.Frag} {cl : Nat → Addr}
theorem ArgRs.length {F : Hp} {α : List Addr} : ∀ {vs : List V} {rs : List R}, ArgRs K cl F α vs rs → vs.length = rs.length
  | _, _, .nil => rfl
  | _, _, .cons _ q => congrArg (· + 1) (ArgRs.length q)
theorem ArgRs.get {F : Hp} {α : List Addr} : ∀ {vs : List V} {rs : List R} {i : Nat} {r : R}, ArgRs K cl F α vs rs → rs[i]? = some r → ∃ v, vs[i]? = some v ∧ ArgR K cl F α v r
  | _, _, _, _, .nil, h => by simp at h
  | _, _, 0, _, .cons r _, h => by
    simp at h
    subst h
    exact ⟨_, rfl, r⟩
  | _, _, i + 1, _, .cons _ q, h => by
    obtain ⟨v, e, r⟩ := ArgRs.get (i := i) q (by simpa using h)
    exact ⟨v, by simpa using e, r⟩
theorem env_start {F : Hp} {α : List Addr} {N : List Str} {vs : List V} {rs : List R} (h : ArgRs K cl F α vs rs) : EnvOk K cl F α (L2.start N vs) (rs ++ List.replicate (N.length - rs.length) .no) := by
  have hl := h.length
  have key : ∀ (i : Nat) (r : R), (rs ++ List.replicate (N.length - rs.length) R.no)[i]? = some r → r ≠ .no → rs[i]? = some r ∧ i < vs.length := by
    intro i r q hr
    by_cases hi : i < rs.length
    · rw [List.getElem?_append_left hi] at q
      exact ⟨q, by omega⟩
    · rw [List.getElem?_append_right (by omega), List.getElem?_replicate] at q
      split at q
      · cases q
        exact absurd rfl hr
      · cases q
  have get : ∀ (i : Nat) (v : V), i < vs.length → vs[i]? = some v → (L2.start N vs)[i]? = some (some v) := by
    intro i v hi q
    unfold L2.start
    rw [List.getElem?_append_left (by simpa using hi), List.getElem?_map, q]
    rfl
  refine ⟨?_, fun i d q => ?_, fun i k q => ?_⟩
  · unfold L2.start
    simp only [List.length_append, List.length_map, List.length_replicate]
    omega
  · obtain ⟨q1, q2⟩ := key i _ q (fun z => nomatch z)
    obtain ⟨v, h1, h2⟩ := h.get q1
    exact ⟨v, get i v q2 h1, h2⟩
  · obtain ⟨q1, q2⟩ := key i _ q (fun z => nomatch z)
    obtain ⟨v, h1, a, h2, h3⟩ := h.get q1
    exact ⟨a, h2, by rw [← h3]; exact get i v q2 h1⟩
theorem Conc.cut {F H : Hp} {α α' : List Addr} {μ : Mu} {n : Nat} (C : Conc K cl F α' μ H) (e : ∃ x, α' = α ++ x) (hn : α.length = n) (hl : lowM n μ = true) : Conc K cl F α (μ.take n) H := by
  obtain ⟨x, rfl⟩ := e
  refine ⟨C.sub, ?_, (List.nodup_append.mp C.nd).1, fun k a xs h1 h2 => ?_, fun a h => C.out a (List.mem_append_left _ h)⟩
  · have := C.len
    rw [List.length_append] at this
    rw [List.length_take, hn]
    omega
  · have hk := (List.getElem?_eq_some_iff.mp h1).1
    have lo : xs.low α.length = true := by
      rw [hn]
      exact List.all_eq_true.mp hl xs (List.mem_of_getElem? h2)
    refine (C.cell k a xs (by rw [List.getElem?_append_left hk]; exact h1) ?_).cut lo
    rw [List.getElem?_take_of_lt (by omega)] at h2
    exact h2
theorem Evo.cut {F H F' H' : Hp} {α α' : List Addr} (e : Evo F α H F' α' H') : Evo F α H F' α H' := ⟨e.ff, ⟨[], by simp⟩, e.hh, e.dom, e.fre, fun a h q => absurd h q⟩
theorem def_core {N : List Str} {n : Nat} {body : MS} {vs : List V} {H : Hp} {Q : VK} {E : XK} (h : spM K cl n (mDef n N.length body) vs H Q E) : tms K cl body { nx := fun _ H' => Q .non H', rt := Q } (L2.start N vs) H := by
  obtain ⟨F, α, μ, rs, r, μ', hl, C, ha, hm, k⟩ := h
  unfold mDef at hm
  split at hm
  · rename_i hrs
    have en := env_start (N := N) ha
    rw [hrs] at en
    split at hm
    · rename_i r1 μ1 h1
      refine ⟨F, α, _, μ, _, C, en, h1, fun v F1 α1 H1 e1 c1 q1 => ?_⟩
      have ln := C.len
      unfold retR at hm
      split at hm
      · cases hm
      rename_i hlow
      have cc := c1.cut e1.ext C.len hlow
      split at hm
      · rename_i j
        obtain ⟨a, q2, rfl⟩ := q1
        split at hm
        · rename_i hj
          cases hm
          refine k _ F1 H1 e1.cut cc ⟨a, ?_, rfl⟩
          obtain ⟨x, e⟩ := e1.ext
          rw [e, List.getElem?_append_left (by rw [C.len]; exact hj)] at q2
          exact q2
        · rename_i hj
          have na : a ∉ α := fun z => by
            obtain ⟨x, e⟩ := e1.ext
            have nd := c1.nd
            rw [e] at nd q2
            rw [List.getElem?_append_right (by rw [C.len]; omega)] at q2
            exact (List.nodup_append.mp nd).2.2 a z a (List.mem_of_getElem? q2) rfl
          split at hm
          · rename_i xs e2
            cases hm
            obtain ⟨us, q3, q4⟩ := c1.cell j a _ q2 e2
            exact k _ F1 H1 e1.cut cc ⟨a, us, rfl, e1.fra a (List.mem_of_getElem? q2) na, c1.out a (List.mem_of_getElem? q2), na, q3, q4⟩
          · rename_i c _ e2
            split at hm
            · rename_i hc
              cases hm
              have q3 := c1.cell j a _ q2 e2
              obtain ⟨x, e⟩ := e1.ext
              rw [e] at q3
              exact k _ F1 H1 e1.cut cc ⟨a, rfl, e1.fra a (List.mem_of_getElem? q2) na, c1.out a (List.mem_of_getElem? q2), na, q3.cut (by rw [ln]; exact hc)⟩
            · cases hm
          · cases hm
      · cases hm
      · cases hm
        exact k _ F1 H1 e1.cut cc q1
      · cases hm
        obtain ⟨a, us, q2, q3, q4, q5, q6, q7⟩ := q1
        refine k _ F1 H1 e1.cut cc ⟨a, us, q2, q3, q4, fun z => q5 ?_, q6, q7⟩
        obtain ⟨x, e⟩ := e1.ext
        rw [e]
        exact List.mem_append_left _ z
      · rename_i c
        split at hm
        · rename_i hc
          cases hm
          obtain ⟨a, q2, q3, q4, q5, q6⟩ := q1
          obtain ⟨x, e⟩ := e1.ext
          rw [e] at q5 q6
          exact k _ F1 H1 e1.cut cc ⟨a, q2, q3, q4, fun z => q5 (List.mem_append_left _ z), q6.cut (by rw [ln]; exact hc)⟩
        · cases hm
    · rename_i δ1 μ1 h1
      unfold retR at hm
      split at hm
      · cases hm
      rename_i hlow
      cases hm
      exact ⟨F, α, _, μ, _, C, en, h1, fun F1 α1 σ1 H1 e1 c1 q1 => k _ F1 H1 e1.cut (c1.cut e1.ext C.len hlow) .non⟩
    · cases hm
  · cases hm
theorem def_ok {P : Program} {w : World} {mg : Str → Option Value} {base : Heap} {x qual : Str} {st : Stmt} {f : Addr} {fd : FuncData} {N ps : List Str} {k n : Nat} {body : MS} (F : Fun K x qual st f fd) (S : FnScope N ps (defScope st)) (hn : ps.length = n)
    (hb : ∀ (cdv : Value) (A : Around) (outer : List Env) (s : Shared) (H : Hp) (E : XK), Room k (A.deeper (envOfC qual (defScope st) s.heap.objs.size f cdv)) →
      SSs (cxOf CX0 P w K mg base N qual (defScope st) f cdv A outer s H E).nox cl (defBody st) body) : FnOk P w K mg base CX0 (k + 1) f fd ps (spM K cl n (mDef n N.length body)) := by
  refine F.ok S (fun vs H Q E h => ?_) (fun cdv A outer s H vs Q E hr h => ⟨_, hb cdv A outer s H E hr, def_core h⟩)
  · obtain ⟨_, _, _, _, _, _, h, _⟩ := h
    rw [h, hn]
/-- a def of the text, by its name -/
structure FS (P : Program) (w : World) (K : PySem.W.Frag) (mg : Str → Option Value) (base : Heap) (cl : Nat → Addr) (k : Nat) (x : Str) (n : Nat) (m : MF) : Prop where
  ok : ∃ (f : Addr) (fd : FuncData) (ps : List Str), FnOk P w K mg base CX0 k f fd ps (spM K cl n m) ∧ mg x = some (.ref f) ∧ PySem.W.keepIn K (.ref f) = true ∧ Binds K fd ps [] ∧ ps.length = n
  ar : ∀ rs μ z, m rs μ = some z → rs.length = n
theorem mDef_ar {n N : Nat} {body : MS} : ∀ rs μ z, mDef n N body rs μ = some z → rs.length = n := fun rs μ z h => by
  unfold mDef at h
  split at h
  · rename_i h1
    exact h1
  · cases h
@[simp] def mCall (f : MF) (ms : MA) : ME := fun δ μ => match ms δ μ with
  | none => none
  | some (rs, μ1) => f rs μ1
theorem call_imp {n : Nat} {mf : MF} {ms : MA} (ar : ∀ rs μ z, mf rs μ = some z → rs.length = n) : ∀ σ H Q, tm K cl (mCall mf ms) σ H Q → tCall (spM K cl n mf) [] E0 (tma K cl ms) σ H Q := fun σ H Q ⟨F, α, δ, μ, z, μ', C, Ee, hm, k⟩ => by
  unfold mCall at hm
  split at hm
  · cases hm
  rename_i rs μ1 h1
  refine ⟨F, α, δ, μ, rs, μ1, C, Ee, h1, fun vs F1 H1 e1 c1 q1 => ?_⟩
  refine ⟨F1, α, μ1, rs, z, μ', by rw [List.append_nil, q1.length, ar _ _ _ hm], c1, by rw [List.append_nil]; exact q1, hm, fun v F2 H2 e2 c2 r2 => k v F2 H2 (e1.trans e2) c2 (r2.back e1.dom)⟩
variable {X : Cx} {e : Expr} {es : List Expr} {pos p : Pos} {k j n : Nat} {x : Str} {mf : MF} {ms : MA}
theorem se_call (S : FS X.prog X.w X.K X.mg X.base cl k x n mf) (hr : Room j X.A) (hk : k ≤ j) (ha : SA X cl (e :: es) ms) (hg : Gl X x := by rfl) (hdb : (x == ("__debug__" : Str)) = false := by decide) (he : starEach (e :: es) X.env = (false, eval e X.env) :: starEach es X.env := by rfl) (hpl : (backTo pos (starEach es X.env)).any (·.1) = false := by rfl) :
    SE X cl (.Call (.Name x p) (e :: es) [] pos) (mCall mf ms) := by
  obtain ⟨f, fd, ps, F, hm, hkp, hb, _⟩ := S.ok
  exact PE.weak (pe_call F (hr.mono hk) hg hm hkp hb .nil pass0 ha hdb he hpl) (call_imp S.ar)
theorem se_call0 (S : FS X.prog X.w X.K X.mg X.base cl k x n mf) (hr : Room j X.A) (hk : k ≤ j) (hg : Gl X x := by rfl) (hdb : (x == ("__debug__" : Str)) = false := by decide) : SE X cl (.Call (.Name x p) [] [] pos) (mCall mf mNil) := by
  obtain ⟨f, fd, ps, F, hm, hkp, hb, _⟩ := S.ok
  refine PE.weak (pe_call0 F (hr.mono hk) hg hm hkp hb .nil pass0 hdb) fun σ H Q h => ?_
  obtain ⟨F, α, δ, μ, z, μ', C, Ee, hm, k⟩ := h
  have hm' : mf [] μ = some (z, μ') := hm
  exact ⟨F, α, μ, [], z, μ', S.ar _ _ _ hm', C, .nil, hm', k⟩
end
end DL
set_option Elab.async false
set_option linter.all false
set_option maxRecDepth 100000
set_option maxHeartbeats 1000000
namespace DL
open PySem PySem.Spec PyProof.Rows L2
section
variable {X : Cx} {cl : Nat → Addr} {e a b c : Expr} {es : List Expr} {m ma mb mc : ME} {pos p : Pos} {K : PySem.W.Frag} {mt : MT} {m1 m2 : MS} {st : Stmt} {sts : List Stmt}
theorem EndOk.pre {F H F1 H1 : Hp} {α α1 : List Addr} {E : Ends} {fl : Flo} (k : EndOk K cl F α H E fl) (e : Evo F α H F1 α1 H1) : EndOk K cl F1 α1 H1 E fl := by
  cases fl with
  | nx δ μ => exact fun F' α' σ' H' e1 c1 q1 => k F' α' σ' H' (e.trans e1) c1 q1
  | bk δ μ => exact fun F' α' σ' H' e1 c1 q1 => k F' α' σ' H' (e.trans e1) c1 q1
  | ct δ μ => exact fun F' α' σ' H' e1 c1 q1 => k F' α' σ' H' (e.trans e1) c1 q1
  | rt r μ => exact fun v F' α' H' e1 c1 q1 => k v F' α' H' (e.trans e1) c1 (q1.back e.dom)

@[simp] def mNx : MS := fun δ μ => some (.nx δ μ)
@[simp] def mSeq (m1 m2 : MS) : MS := fun δ μ => match m1 δ μ with
  | some (.nx δ' μ') => m2 δ' μ'
  | r => r
theorem sss_nil : SSs X cl [] mNx := by
  refine PSs.weak pss_nil fun E σ H ⟨F, α, δ, μ, fl, C, Ee, hm, k⟩ => ?_
  cases hm
  exact k F α σ H Evo.refl C Ee
theorem sss_one (h : SS X cl st m1) : SSs X cl [st] m1 := pss_one h
theorem sss_cons (h1 : SS X cl st m1) (h2 : SSs X cl sts m2) : SSs X cl (st :: sts) (mSeq m1 m2) := by
  refine PSs.weak (pss_cons h1 h2) fun E σ H ⟨F, α, δ, μ, fl, C, Ee, hm, k⟩ => ?_
  unfold mSeq at hm
  split at hm
  · rename_i δ1 μ1 h1
    exact ⟨F, α, δ, μ, _, C, Ee, h1, fun F1 α1 σ1 H1 e1 c1 q1 => ⟨F1, α1, δ1, μ1, fl, c1, q1, hm, k.pre e1⟩⟩
  · rename_i h1
    refine ⟨F, α, δ, μ, fl, C, Ee, hm, ?_⟩
    cases fl with
    | nx δ' μ' => exact absurd hm (h1 δ' μ')
    | bk δ' μ' => exact k
    | ct δ' μ' => exact k
    | rt r μ' => exact k
@[simp] def mBk : MS := fun δ μ => some (.bk δ μ)
@[simp] def mCt : MS := fun δ μ => some (.ct δ μ)
@[simp] def mNever : MS := fun _ _ => none
theorem ss_pass : SS X cl (.Pass pos) mNx := by
  refine PS.weak ps_pass fun E σ H ⟨F, α, δ, μ, fl, C, Ee, hm, k⟩ => ?_
  cases hm
  exact k F α σ H Evo.refl C Ee
theorem ss_break : SS X cl (.Break pos) mBk := by
  refine PS.weak ps_break fun E σ H ⟨F, α, δ, μ, fl, C, Ee, hm, k⟩ => ?_
  cases hm
  exact k F α σ H Evo.refl C Ee
theorem ss_cont : SS X cl (.Continue pos) mCt := by
  refine PS.weak ps_continue fun E σ H ⟨F, α, δ, μ, fl, C, Ee, hm, k⟩ => ?_
  cases hm
  exact k F α σ H Evo.refl C Ee
theorem ss_never : SS X cl st mNever := by
  refine PS.weak ps_never fun E σ H ⟨F, α, δ, μ, fl, C, Ee, hm, k⟩ => ?_
  cases hm
@[simp] def mRet (m : ME) : MS := fun δ μ => match m δ μ with
  | some (r, μ1) => some (.rt r μ1)
  | none => none
theorem ss_ret (h : SE X cl e m) : SS X cl (.Return (some e) pos) (mRet m) := by
  refine PS.weak (ps_ret h) fun E σ H ⟨F, α, δ, μ, fl, C, Ee, hm, k⟩ => ?_
  unfold mRet at hm
  split at hm
  · rename_i r μ1 h1
    cases hm
    exact ⟨F, α, δ, μ, r, μ1, C, Ee, h1, fun v F1 H1 e1 c1 q1 => k v F1 α H1 e1 c1 q1⟩
  · cases hm
@[simp] def mDrop (m : ME) : MS := fun δ μ => match m δ μ with
  | some (_, μ1) => some (.nx δ μ1)
  | none => none
theorem ss_expr (h : SE X cl e m) (hs : swapsWith e none pos.line X.env = pure false := by rfl) : SS X cl (.Expr e pos) (mDrop m) := by
  refine PS.weak (ps_expr h hs) fun E σ H ⟨F, α, δ, μ, fl, C, Ee, hm, k⟩ => ?_
  unfold mDrop at hm
  split at hm
  · rename_i r μ1 h1
    cases hm
    exact ⟨F, α, δ, μ, r, μ1, C, Ee, h1, fun v F1 H1 e1 c1 q1 => k F1 α σ H1 e1 c1 (Ee.step e1)⟩
  · cases hm
@[simp] def mIfS (mt : MT) (m1 m2 : MS) : MS := fun δ μ => match mt δ μ with
  | some (true, μ1) => m1 δ μ1
  | some (false, μ1) => m2 δ μ1
  | none => none
theorem ss_if {xs ys : List Stmt} (hc : ST X cl c mt) (ha : SSs X cl xs m1) (hb : SSs X cl ys m2) : SS X cl (.If c xs ys pos) (mIfS mt m1 m2) := by
  refine PS.weak (ps_if hc ha hb) fun E σ H ⟨F, α, δ, μ, fl, C, Ee, hm, k⟩ => ?_
  unfold mIfS at hm
  split at hm
  · rename_i μ1 h1
    exact ⟨F, α, δ, μ, _, μ1, C, Ee, h1, fun F1 H1 e1 c1 => iteT ⟨F1, α, δ, μ1, fl, c1, Ee.step e1, hm, k.pre e1⟩⟩
  · rename_i μ1 h1
    exact ⟨F, α, δ, μ, _, μ1, C, Ee, h1, fun F1 H1 e1 c1 => iteF ⟨F1, α, δ, μ1, fl, c1, Ee.step e1, hm, k.pre e1⟩⟩
  · cases hm

/-- what is stored: plain data, or a cell's name -/
@[simp] def putR (i : Nat) (r : R) (δ : Sl) : Option Sl := match r with
  | .dat d => some (δ.set i (.dat d))
  | .fr xs => some (δ.set i (.dat (.lst xs)))
  | .cel k => some (δ.set i (.cel k))
  | .no => none
  | .fc _ => none
@[simp] def mSet (i : Nat) (m : ME) : MS := fun δ μ => match m δ μ with
  | some (r, μ1) => match putR i r δ with
    | some δ1 => some (.nx δ1 μ1)
    | none => none
  | none => none
theorem put_ok {F H H0 : Hp} {α : List Addr} {σ : L2.St} {δ δ1 : Sl} {v : V} {r : R} {i : Nat} (en : EnvOk K cl F α σ δ) (h : RepR K cl H0 F α H v (froz r)) (q : putR i r δ = some δ1) : EnvOk K cl F α (σ.set i (some v)) δ1 := by
  cases r with
  | no => cases q
  | fc c => cases q
  | dat d =>
    cases q
    exact en.put i h
  | fr xs =>
    cases q
    exact en.put i h
  | cel k =>
    cases q
    obtain ⟨a, h1, rfl⟩ := h
    exact en.putC i h1
theorem set_imp {i : Nat} : ∀ E σ H, tms K cl (mSet i m) E σ H → tAsg (tm K cl m) (gName i) E σ H := fun E σ H ⟨F, α, δ, μ, fl, C, Ee, hm, k⟩ => by
  unfold mSet at hm
  split at hm
  · rename_i r μ1 h1
    split at hm
    · rename_i δ1 h2
      cases hm
      refine ⟨F, α, δ, μ, r, μ1, C, Ee, h1, fun v F1 H1 e1 c1 q1 => ?_⟩
      obtain ⟨F2, e2, c2, r2⟩ := freeze e1 c1 q1
      exact k F2 α _ H1 e2 c2 (put_ok (Ee.step e2) r2 h2)
    · cases hm
  · cases hm
theorem ss_set {i : Nat} {x : Str} {pos' : Pos} (hN : X.N.Nodup) (he : SE X cl e m) (hi : X.N[i]? = some x := by rfl) (hx : Loc X.env.scope x := by first | exact .inl rfl | exact .inr rfl) (hs : swapsWith e (some (.Name x pos')) pos.line X.env = pure false := by rfl) (hf : X.fn x = true ∨ X.env.scope.names.lookup x = some .local := by first | exact .inl rfl | exact .inr rfl) :
    SS X cl (.Assign [.Name x pos'] e pos) (mSet i m) := PS.weak (ps_set hN hi hx he hs hf) set_imp
/-- a name that holds a list of its own -/
@[simp] def mSetC (i : Nat) (m : ME) : MS := fun δ μ => match m δ μ with
  | some (.fr xs, μ1) => some (.nx (δ.set i (.cel μ1.length)) (μ1 ++ [.l xs]))
  | some (.fc c, μ1) => some (.nx (δ.set i (.cel μ1.length)) (μ1 ++ [c]))
  | _ => none
@[simp] def R.isFr : R → Bool
  | .fr _ => true
  | .fc _ => true
  | _ => false
theorem RepR.frc {F H0 H : Hp} {α : List Addr} {v : V} {xs : List D} (h : RepR K cl H0 F α H v (.fr xs)) : RepR K cl H0 F α H v (.fc (.l xs)) := by
  obtain ⟨a, vs, h1, h2, h3, h4, h5, h6⟩ := h
  exact ⟨a, h1, h2, h3, h4, vs, h5, h6⟩
theorem RepR.frH {F H0 H : Hp} {α : List Addr} {v : V} {r : R} (h : RepR K cl H0 F α H v r) (q : r.isFr = true) : ∃ a, v = .ref a ∧ H0 a = none ∧ ∃ u, H a = some u := by
  cases r with
  | fr xs =>
    obtain ⟨a, vs, h1, h2, h3, h4, h5, h6⟩ := h
    exact ⟨a, h1, h2, _, h5⟩
  | fc c =>
    obtain ⟨a, h1, h2, h3, h4, h5⟩ := h
    exact ⟨a, h1, h2, h5.some⟩
  | _ => cases q
theorem fr_ne {F F2 H0 H1 H2 : Hp} {α α2 : List Addr} {v w : V} {r1 r2 : R} {a : Addr} (q1 : RepR K cl H0 F α H1 v r1) (q2 : RepR K cl H1 F2 α2 H2 w r2) (f2 : r2.isFr = true) (hw : w = .ref a) : ¬ (V.ref a = v ∧ r1.isFr = true) := fun ⟨z, f1⟩ => by
  obtain ⟨b, h1, _, u, h2⟩ := q1.frH f1
  obtain ⟨c, g1, g2, _⟩ := q2.frH f2
  rw [hw] at g1
  cases g1
  rw [h1] at z
  cases z
  rw [h2] at g2
  cases g2
theorem mkCell {F0 F H0 H : Hp} {α : List Addr} {μ : Mu} {v : V} {c : Cel} (e : Evo F0 α H0 F α H) (C : Conc K cl F α μ H) (h : RepR K cl H0 F α H v (.fc c)) :
    ∃ a, v = .ref a ∧ Evo F0 α H0 F (α ++ [a]) H ∧ Conc K cl F (α ++ [a]) (μ ++ [c]) H ∧ (α ++ [a])[μ.length]? = some a := by
  obtain ⟨a, h1, h2, h3, h4, h5⟩ := h
  refine ⟨a, h1, ⟨e.ff, ⟨[a], rfl⟩, e.hh, e.dom, e.fre, fun b hb q => ?_⟩, ⟨C.sub, by simp [C.len], ?_, fun k b ys q1 q2 => ?_, fun b hb => ?_⟩, ?_⟩
  · rcases List.mem_append.mp hb with z | z
    · exact absurd z q
    · rw [List.mem_singleton.mp z]
      exact h2
  · rw [List.nodup_append]
    exact ⟨C.nd, by simp, fun x hx y hy z => h4 (by rw [List.mem_singleton.mp hy] at z; rw [← z]; exact hx)⟩
  · by_cases hk : k < α.length
    · rw [List.getElem?_append_left hk] at q1
      rw [List.getElem?_append_left (by rw [← C.len]; exact hk)] at q2
      exact (C.cell k b ys q1 q2).mono (Same.refl F) ⟨[a], rfl⟩
    · have e1 : k = α.length := by
        have := (List.getElem?_eq_some_iff.mp q1).1
        rw [List.length_append] at this
        simp at this
        omega
      subst e1
      rw [List.getElem?_append_right (Nat.le_refl _), Nat.sub_self] at q1
      rw [C.len, List.getElem?_append_right (Nat.le_refl _), Nat.sub_self] at q2
      simp at q1 q2
      subst q1 q2
      exact h5.mono (Same.refl F) ⟨[a], rfl⟩
  · rcases List.mem_append.mp hb with z | z
    · exact C.out b z
    · rw [List.mem_singleton.mp z]
      exact h3
  · rw [← C.len, List.getElem?_append_right (Nat.le_refl _), Nat.sub_self]
    rfl
theorem EnvOk.cellUp {F : Hp} {α : List Addr} {σ : L2.St} {δ : Sl} {a : Addr} (h : EnvOk K cl F α σ δ) : EnvOk K cl F (α ++ [a]) σ δ := by
  refine ⟨h.1, h.2.1, fun i k q => ?_⟩
  obtain ⟨b, h1, h2⟩ := h.2.2 i k q
  exact ⟨b, by rw [List.getElem?_append_left (List.getElem?_eq_some_iff.mp h1).1]; exact h1, h2⟩
theorem setC_imp {i : Nat} : ∀ E σ H, tms K cl (mSetC i m) E σ H → tAsg (tm K cl m) (gName i) E σ H := fun E σ H ⟨F, α, δ, μ, fl, C, Ee, hm, k⟩ => by
  unfold mSetC at hm
  split at hm
  · rename_i xs μ1 h1
    cases hm
    refine ⟨F, α, δ, μ, _, μ1, C, Ee, h1, fun v F1 H1 e1 c1 q1 => ?_⟩
    obtain ⟨a, rfl, e2, c2, l2⟩ := mkCell e1 c1 q1.frc
    exact k F1 _ _ H1 e2 c2 (((Ee.step e1).cellUp).putC i l2)
  · rename_i c μ1 h1
    cases hm
    refine ⟨F, α, δ, μ, _, μ1, C, Ee, h1, fun v F1 H1 e1 c1 q1 => ?_⟩
    obtain ⟨a, rfl, e2, c2, l2⟩ := mkCell e1 c1 q1
    exact k F1 _ _ H1 e2 c2 (((Ee.step e1).cellUp).putC i l2)
  · cases hm
theorem ss_setC {i : Nat} {x : Str} {pos' : Pos} (hN : X.N.Nodup) (he : SE X cl e m) (hi : X.N[i]? = some x := by rfl) (hx : Loc X.env.scope x := by first | exact .inl rfl | exact .inr rfl) (hs : swapsWith e (some (.Name x pos')) pos.line X.env = pure false := by rfl) (hf : X.fn x = true ∨ X.env.scope.names.lookup x = some .local := by first | exact .inl rfl | exact .inr rfl) :
    SS X cl (.Assign [.Name x pos'] e pos) (mSetC i m) := PS.weak (ps_set hN hi hx he hs hf) setC_imp

/-- store: by a flag as plain data or as a cell of its own -/
@[simp] def stR (cellq : Bool) (i : Nat) (r : R) (δ : Sl) (μ : Mu) : Option (Sl × Mu) := match cellq, r with
  | true, .fr xs => some (δ.set i (.cel μ.length), μ ++ [.l xs])
  | true, .fc c => some (δ.set i (.cel μ.length), μ ++ [c])
  | true, _ => none
  | false, r => match putR i r δ with
    | some δ1 => some (δ1, μ)
    | none => none
@[simp] def mPar (ci cj : Bool) (i j : Nat) (ma mb : ME) : MS := fun δ μ => match ma δ μ with
  | none => none
  | some (x, μ1) => match mb δ μ1 with
    | none => none
    | some (y, μ2) => match stR ci i x δ μ2 with
      | none => none
      | some (δ1, μ3) => match stR cj j y δ1 μ3 with
        | none => none
        | some (δ2, μ4) => some (.nx δ2 μ4)
theorem st_ok {F0 F H0 H : Hp} {α0 α : List Addr} {μ μ1 : Mu} {σ : L2.St} {δ δ1 : Sl} {v : V} {r : R} {i : Nat} {q : Bool} (e : Evo F0 α0 H0 F α H) (C : Conc K cl F α μ H) (en : EnvOk K cl F α σ δ) (h : RepR K cl H0 F α H v r) (hq : stR q i r δ μ = some (δ1, μ1)) :
    ∃ F1 α1, Evo F0 α0 H0 F1 α1 H ∧ Same F F1 ∧ (∃ x, α1 = α ++ x) ∧ (∀ b, b ∈ α1 → b ∉ α → .ref b = v ∧ r.isFr = true) ∧ (∀ b o, F b = none → F1 b = some o → .ref b = v ∧ r.isFr = true) ∧ Conc K cl F1 α1 μ1 H ∧ EnvOk K cl F1 α1 (σ.set i (some v)) δ1 := by
  cases q with
  | true =>
    have main : ∀ c : Cel, RepR K cl H0 F α H v (.fc c) → r.isFr = true → some (δ.set i (.cel μ.length), μ ++ [c]) = some (δ1, μ1) → ∃ F1 α1, Evo F0 α0 H0 F1 α1 H ∧ Same F F1 ∧ (∃ x, α1 = α ++ x) ∧ (∀ b, b ∈ α1 → b ∉ α → .ref b = v ∧ r.isFr = true) ∧ (∀ b o, F b = none → F1 b = some o → .ref b = v ∧ r.isFr = true) ∧ Conc K cl F1 α1 μ1 H ∧ EnvOk K cl F1 α1 (σ.set i (some v)) δ1 := by
      intro c h hfr hq
      cases hq
      obtain ⟨a, h1, h2, h3, h4, h5⟩ := id h
      have e' : Evo F α H0 F α H := ⟨Same.refl F, ⟨[], by simp⟩, fun b o hb hb' => by
        by_cases z : b ∈ α0
        · obtain ⟨x, ex⟩ := e.ext
          exact absurd (by rw [ex]; exact List.mem_append_left _ z) hb'
        · exact e.hh b o hb z, e.dom, fun b o hb hq => (by rw [hb] at hq; cases hq), fun b hb hq => absurd hb hq⟩
      obtain ⟨a', rfl, e2, c2, l2⟩ := mkCell e' C h
      refine ⟨F, α ++ [a'], ⟨e.ff, ?_, e.hh, e.dom, e.fre, fun b hb hq => ?_⟩, Same.refl F, ⟨[a'], rfl⟩, fun b hb hq => ?_, fun b o hb hq => (by rw [hb] at hq; cases hq), c2, (en.cellUp).putC i l2⟩
      · obtain ⟨x, ex⟩ := e.ext
        exact ⟨x ++ [a'], by rw [ex, List.append_assoc]⟩
      · by_cases z : b ∈ α
        · exact e.fra b z hq
        · exact e2.fra b hb z
      · rcases List.mem_append.mp hb with z | z
        · exact absurd z hq
        · rw [List.mem_singleton.mp z]
          exact ⟨rfl, hfr⟩
    cases r with
    | fr xs => exact main (.l xs) h.frc rfl hq
    | fc c => exact main c h rfl hq
    | no => cases hq
    | dat d => cases hq
    | cel k => cases hq
  | false =>
    unfold stR at hq
    simp only at hq
    split at hq
    · rename_i δ' h2
      cases hq
      cases r with
      | no => cases h2
      | fc c => cases h2
      | dat d => exact ⟨F, α, e, Same.refl F, ⟨[], by simp⟩, fun b hb hq => absurd hb hq, fun b o hb hq => (by rw [hb] at hq; cases hq), C, put_ok (r := .dat d) en h h2⟩
      | cel k => exact ⟨F, α, e, Same.refl F, ⟨[], by simp⟩, fun b hb hq => absurd hb hq, fun b o hb hq => (by rw [hb] at hq; cases hq), C, put_ok (r := .cel k) en h h2⟩
      | fr xs =>
        obtain ⟨a, vs, h1, g2, h3, h4, h5, h6⟩ := id h
        have sm : Same F (upd F a (.lst vs)) := same_upd h3
        refine ⟨upd F a (.lst vs), α, ⟨e.ff.trans sm, e.ext, e.hh, e.dom, fun b o hb hq => ?_, e.fra⟩, sm, ⟨[], by simp⟩, fun b hb hq => absurd hb hq, fun b o hb hq => ?_, ⟨fun b o hb => ?_, C.len, C.nd, fun k b ys q1 q2 => ?_, fun b hb => ?_⟩, ?_⟩
        · by_cases z : b = a
          · rw [z]
            exact g2
          · exact e.fre b o hb (upd_some_ne hq z)
        · by_cases z : b = a
          · rw [z]
            exact ⟨h1.symm, rfl⟩
          · have := upd_some_ne hq z
            rw [hb] at this
            cases this
        · by_cases z : b = a
          · subst z
            rw [upd_same] at hb
            cases hb
            exact h5
          · exact C.sub b o (upd_some_ne hb z)
        · exact (C.cell k b ys q1 q2).monoF sm
        · rw [upd_ne (show b ≠ a from fun z => h4 (by rw [← z]; exact hb))]
          exact C.out b hb
        · refine put_ok (H := H) (H0 := H0) (r := .fr xs) ⟨en.1, fun i d q => ?_, en.2.2⟩ ?_ h2
          · obtain ⟨w, g1, g2⟩ := en.2.1 i d q
            exact ⟨w, g1, g2.mono sm⟩
          · show Rep K cl _ v _
            rw [h1]
            exact .lst upd_same (h6.mono sm)
    · cases hq
/-- what stays of a second value behind the first store -/
theorem RepR.other {F F1 H H0 : Hp} {α α1 : List Addr} {w : V} {r : R} {P : Addr → Prop} (h : RepR K cl H0 F α H w r) (sm : Same F F1) (ex : ∃ x, α1 = α ++ x) (n1 : ∀ b, b ∈ α1 → b ∉ α → P b) (n2 : ∀ b o, F b = none → F1 b = some o → P b) (ne : ∀ a, r.isFr = true → w = .ref a → ¬ P a) : RepR K cl H0 F1 α1 H w r := by
  cases r with
  | no => exact h
  | dat d => exact Rep.mono sm h
  | cel k =>
    obtain ⟨a, h1, h2⟩ := h
    obtain ⟨x, rfl⟩ := ex
    exact ⟨a, by rw [List.getElem?_append_left (List.getElem?_eq_some_iff.mp h1).1]; exact h1, h2⟩
  | fr xs =>
    obtain ⟨a, vs, h1, h2, h3, h4, h5, h6⟩ := h
    refine ⟨a, vs, h1, h2, ?_, fun z => ?_, h5, h6.mono sm⟩
    · cases q : F1 a with
      | none => rfl
      | some o => exact absurd (n2 a o h3 q) (ne a rfl h1)
    · exact absurd (n1 a z h4) (ne a rfl h1)
  | fc c =>
    obtain ⟨a, h1, h2, h3, h4, h5⟩ := h
    refine ⟨a, h1, h2, ?_, fun z => ?_, h5.mono sm ex⟩
    · cases q : F1 a with
      | none => rfl
      | some o => exact absurd (n2 a o h3 q) (ne a rfl h1)
    · exact absurd (n1 a z h4) (ne a rfl h1)
/-- two results in a row, as they come -/
theorem ss_par {ci cj : Bool} {i j : Nat} {x y : Str} {px py pt : Pos} {kt k2 : Nat} {pt2 : Pos} (hN : X.N.Nodup) (ha : SE X cl a ma) (hb : SE X cl b mb) (hij : i ≠ j := by decide) (hc : X.calm = true := by rfl) (hi : X.N[i]? = some x := by rfl) (hj : X.N[j]? = some y := by rfl)
    (hx : X.env.scope.names.lookup x = some .local := by rfl) (hy : X.env.scope.names.lookup y = some .local := by rfl)
    (hw : swappedStores [.Tuple [.Name x px, .Name y py] kt pt] (.Tuple [a, b] k2 pt2) X.env = pure (some [x, y]) := by rfl)
    (hs : swapsWithSole [.Tuple [.Name x px, .Name y py] kt pt] (.Tuple [a, b] k2 pt2) pos.line X.env = pure false := by rfl)
    (ha1 : starEach (a :: [b]) X.env = (false, eval a X.env) :: starEach [b] X.env := by rfl) (hb1 : starEach (b :: []) X.env = (false, eval b X.env) :: starEach [] X.env := by rfl) :
    SS X cl (.Assign [.Tuple [.Name x px, .Name y py] kt pt] (.Tuple [a, b] k2 pt2) pos) (mPar ci cj i j ma mb) := by
  refine PS.weak (ps_par hc hN hi hj hij hx hy (pa_cons ha (pa_cons hb pa_nil hb1) ha1) hw hs) fun E σ H ⟨F, α, δ, μ, fl, C, Ee, hm, k⟩ => ?_
  unfold mPar at hm
  split at hm
  · cases hm
  rename_i r1 μ1 h1
  split at hm
  · cases hm
  rename_i r2 μ2 h2
  split at hm
  · cases hm
  rename_i δ1 μ3 h3
  split at hm
  · cases hm
  rename_i δ2 μ4 h4
  cases hm
  refine ⟨F, α, δ, μ, r1, μ1, C, Ee, h1, fun v F1 H1 e1 c1 q1 => ⟨F1, α, δ, μ1, r2, μ2, c1, Ee.step e1, h2, fun w F2 H2 e2 c2 q2 => ⟨v, w, rfl, ?_⟩⟩⟩
  obtain ⟨F3, α3, e3, sm, ex, n1, n2, c3, en3⟩ := st_ok (e1.trans e2) c2 ((Ee.step e1).step e2) (q1.step e2) h3
  have q2' := (q2.back e1.dom).other sm ex n1 n2 fun a hr hw => fr_ne q1 q2 hr hw
  obtain ⟨F4, α4, e4, _, _, _, _, c4, en4⟩ := st_ok e3 c3 en3 q2' h4
  exact k F4 α4 _ H2 e4 c4 en4
end
end DL
set_option Elab.async false
set_option linter.all false
set_option maxRecDepth 100000
set_option maxHeartbeats 1000000
namespace DL
open PySem PySem.Spec PyProof.Rows L2
section
variable {X : Cx} {cl : Nat → Addr} {e a b c : Expr} {es : List Expr} {m ma mb mc : ME} {pos p : Pos} {K : PySem.W.Frag} {mt : MT} {m1 m2 : MS} {st : Stmt} {sts : List Stmt}

theorem nd_ix {N : List Addr} (hN : N.Nodup) {i j : Nat} {x : Addr} (a : N[i]? = some x) (b : N[j]? = some x) : i = j := by
  obtain ⟨h1, e1⟩ := List.getElem?_eq_some_iff.mp a
  obtain ⟨h2, e2⟩ := List.getElem?_eq_some_iff.mp b
  exact (List.getElem_inj hN).mp (e1.trans e2.symm)
theorem Conc.putC {F H : Hp} {α : List Addr} {μ : Mu} {k : Nat} {ad : Addr} {ob : HO} {c : Cel} (C : Conc K cl F α μ H) (hk : α[k]? = some ad) (q : CellOk K cl F α (some ob) c) : Evo F α H F α (upd H ad ob) ∧ Conc K cl F α (μ.set k c) (upd H ad ob) := by
  have hin : ad ∈ α := List.mem_of_getElem? hk
  have hsome : ∃ o, H ad = some o := by
    have hl : k < μ.length := by rw [← C.len]; exact (List.getElem?_eq_some_iff.mp hk).1
    exact (C.cell k ad μ[k] hk (List.getElem?_eq_getElem hl)).some
  obtain ⟨o, ho⟩ := hsome
  refine ⟨⟨Same.refl F, ⟨[], by simp⟩, fun b u h n => ?_, fun b h => ?_, fun b u h z => (by rw [h] at z; cases z), fun b h z => absurd h z⟩, ⟨fun b u h => ?_, by simp [C.len], C.nd, fun j b ys h1 h2 => ?_, C.out⟩⟩
  · rw [upd_ne (fun z => n (by rw [z]; exact hin))]
    exact h
  · by_cases z : b = ad
    · rw [z, upd_same] at h
      cases h
    · rw [upd_ne z] at h
      exact h
  · have : b ≠ ad := fun z => by
      have := C.out ad hin
      rw [← z, h] at this
      cases this
    rw [upd_ne this]
    exact C.sub b u h
  · by_cases hj : k = j
    · subst hj
      rw [hk] at h1
      cases h1
      rw [List.getElem?_set_self (by rw [← C.len]; exact (List.getElem?_eq_some_iff.mp hk).1)] at h2
      cases h2
      rw [upd_same]
      exact q
    · rw [List.getElem?_set_ne hj] at h2
      rw [upd_ne (fun z => hj ?_)]
      · exact C.cell j b ys h1 h2
      · rw [z] at h1
        obtain ⟨l1, e1⟩ := List.getElem?_eq_some_iff.mp hk
        obtain ⟨l2, e2⟩ := List.getElem?_eq_some_iff.mp h1
        exact nd_ix C.nd hk h1
theorem Conc.put {F H : Hp} {α : List Addr} {μ : Mu} {k : Nat} {ad : Addr} {vs : List V} {xs : List D} (C : Conc K cl F α μ H) (hk : α[k]? = some ad) (q : Reps K cl F vs xs) : Evo F α H F α (upd H ad (.lst vs)) ∧ Conc K cl F α (μ.set k (.l xs)) (upd H ad (.lst vs)) := C.putC hk ⟨vs, rfl, q⟩

@[simp] def mPut (mo mi m : ME) : MS := fun δ μ => match m δ μ with
  | none => none
  | some (r, μ1) => match toD r with
    | none => none
    | some d => match mo δ μ1 with
      | some (.cel k, μ2) => match mi δ μ2 with
        | some (.dat (.int i), μ3) => match μ3[k]? with
          | some (.l xs) => match ixN xs.length i with
            | none => none
            | some j => some (.nx δ (μ3.set k (.l (xs.set j d))))
          | _ => none
        | _ => none
      | _ => none
theorem ss_put {o i : Expr} {mo mi : ME} {p2 : Pos} (ho : SE X cl o mo) (hi : SE X cl i mi) (he : SE X cl e m) (hs : swapsWithSole [.Subscript o i p2] e pos.line X.env = pure false := by rfl) (hw : swappedStores [.Subscript o i p2] e X.env = pure none := by rfl)
    (h1 : (assignEach [.Subscript o i p2] X.env).map (·.2) = [assign (.Subscript o i p2) X.env] := by rfl)
    (has : ∀ v, assign (.Subscript o i p2) X.env v = (do
      let ov ← holding [v] (eval o X.env)
      let iv ← holding [v, ov] (eval i X.env)
      standAt p2
      holding [v, ov, iv] (setItem ov iv v)
      release [v, ov, iv] []) := by intro _; rfl) : SS X cl (.Assign [.Subscript o i p2] e pos) (mPut mo mi m) := by
  refine PS.weak (ps_asg he (pg_sub ho hi set_list has) hs hw h1) fun E σ H ⟨F, α, δ, μ, fl, C, Ee, hm, k⟩ => ?_
  unfold mPut at hm
  split at hm
  · cases hm
  rename_i r μ1 h1
  split at hm
  · cases hm
  rename_i d h2
  split at hm
  · rename_i kk μ2 h3
    split at hm
    · rename_i ii μ3 h4
      split at hm
      rotate_left
      · cases hm
      rename_i xs h5
      split at hm
      · cases hm
      rename_i j h6
      cases hm
      refine ⟨F, α, δ, μ, r, μ1, C, Ee, h1, fun v F1 H1 e1 c1 q1 => ?_⟩
      obtain ⟨F2, e2, c2, q2⟩ := freeze e1 c1 q1
      rw [froz_dat h2] at q2
      refine ⟨F2, α, δ, μ1, _, μ2, c2, Ee.step e2, h3, fun w F3 H3 e3 c3 q3 => ⟨F3, α, δ, μ2, _, μ3, c3, (Ee.step e2).step e3, h4, fun u F4 H4 e4 c4 q4 => ?_⟩⟩
      obtain ⟨ad, q5, rfl⟩ := q3
      obtain ⟨vs, q6, q7⟩ := c4.cell kk ad _ q5 h5
      have q8 : Rep X.K cl F4 v d := Rep.mono (e3.trans e4).ff q2
      refine ⟨ad, vs, ii, j, rfl, rep_int q4, q6, by rw [q7.length]; exact h6, ?_⟩
      obtain ⟨e5, c5⟩ := c4.put q5 (q7.set j q8)
      exact k F4 α σ _ (e2.trans (e3.trans (e4.trans e5))) c5 (((Ee.step e2).step e3).step e4)
    · cases hm
  · cases hm

@[simp] def mAug (i : Nat) (f : Int → Int → Int) (m : ME) : MS := fun δ μ => match δ[i]? with
  | some (.dat (.int x)) => match m δ μ with
    | some (.dat (.int y), μ1) => some (.nx (δ.set i (.dat (.int (f x y)))) μ1)
    | _ => none
  | _ => none
theorem aug_imp {i : Nat} {f : Int → Int → Int} : ∀ E σ H, tms K cl (mAug i f m) E σ H → tAug i (tm K cl m) (ipI f) E σ H := fun E σ H ⟨F, α, δ, μ, fl, C, Ee, hm, k⟩ => by
  unfold mAug at hm
  split at hm
  · rename_i x h1
    split at hm
    · rename_i y μ1 h2
      cases hm
      obtain ⟨v, q1, q2⟩ := Ee.2.1 i _ h1
      refine ⟨v, q1, F, α, δ, μ, _, μ1, C, Ee, h2, fun w F1 H1 e1 c1 r1 => ⟨x, y, rep_int q2, rep_int r1, ?_⟩⟩
      exact k F1 α _ H1 e1 c1 ((Ee.step e1).put i (.int _))
    · cases hm
  · cases hm
theorem ss_augAdd {i : Nat} {x : Str} {pos' : Pos} (hN : X.N.Nodup) (he : SE X cl e m) (hi : X.N[i]? = some x := by rfl) (hx : Loc X.env.scope x := by first | exact .inl rfl | exact .inr rfl) (hf : X.fn x = true ∨ X.env.scope.names.lookup x = some .local := by first | exact .inl rfl | exact .inr rfl) :
    SS X cl (.AugAssign (.Name x pos') .Add e pos) (mAug i (fun x y => x + y) m) := PS.weak (ps_aug hN hi hx he ip_add hf) aug_imp
theorem ss_augSub {i : Nat} {x : Str} {pos' : Pos} (hN : X.N.Nodup) (he : SE X cl e m) (hi : X.N[i]? = some x := by rfl) (hx : Loc X.env.scope x := by first | exact .inl rfl | exact .inr rfl) (hf : X.fn x = true ∨ X.env.scope.names.lookup x = some .local := by first | exact .inl rfl | exact .inr rfl) :
    SS X cl (.AugAssign (.Name x pos') .Sub e pos) (mAug i (fun x y => x - y) m) := PS.weak (ps_aug hN hi hx he ip_sub hf) aug_imp

def BmSem (K : PySem.W.Frag) (cl : Nat → Addr) (r : V → List V → Hp → VK → Prop) (f : Nat → List R → Mu → Option (R × Mu)) : Prop := ∀ (F : Hp) (α : List Addr) (μ μ' : Mu) (H : Hp) (kk : Nat) (ad : Addr) (vs : List V) (rs : List R) (z : R) (Q : VK), Conc K cl F α μ H → α[kk]? = some ad → ArgRs K cl F α vs rs → f kk rs μ = some (z, μ') →
  (∀ v F' H', Evo F α H F' α H' → Conc K cl F' α μ' H' → RepR K cl H F' α H' v z → Q v H') → r (.ref ad) vs H Q
theorem ElRs.length {F : Hp} {α : List Addr} : ∀ {vs : List V} {es : List El}, ElRs K cl F α vs es → vs.length = es.length
  | _, _, .nil => rfl
  | _, _, .cons _ q => congrArg (· + 1) (ElRs.length q)
theorem ElRs.append {F : Hp} {α : List Addr} : ∀ {vs us : List V} {es fs : List El}, ElRs K cl F α vs es → ElRs K cl F α us fs → ElRs K cl F α (vs ++ us) (es ++ fs)
  | _, _, _, _, .nil, q => q
  | _, _, _, _, .cons r q, s => .cons r (ElRs.append q s)
theorem Reps.els {F : Hp} {α : List Addr} : ∀ {vs : List V} {xs : List D}, Reps K cl F vs xs → ElRs K cl F α vs (xs.map El.d)
  | _, _, .nil => .nil
  | _, _, .cons r q => .cons r (Reps.els q)
/-- a list of whatever -/
@[simp] def nOf : Option Cel → Option (List El)
  | some (.l xs) => some (xs.map El.d)
  | some (.n es) => some es
  | _ => none
theorem nOf_ok {F H : Hp} {α : List Addr} {μ : Mu} {k : Nat} {ad : Addr} {es : List El} (C : Conc K cl F α μ H) (hk : α[k]? = some ad) (q : nOf μ[k]? = some es) : ∃ us, H ad = some (.lst us) ∧ ElRs K cl F α us es := by
  unfold nOf at q
  split at q
  · rename_i xs h
    cases q
    obtain ⟨us, h1, h2⟩ := C.cell k ad _ hk h
    exact ⟨us, h1, h2.els⟩
  · rename_i xs h
    cases q
    exact C.cell k ad _ hk h
  · cases q
@[simp] def isLst : Option Cel → Bool
  | some (.l _) => true
  | some (.n _) => true
  | _ => false
@[simp] def mBm (f : Nat → List R → Mu → Option (R × Mu)) (mo : ME) (ms : MA) : ME := fun δ μ => match mo δ μ with
  | some (.cel k, μ1) => match isLst μ1[k]? with
    | true => match ms δ μ1 with
      | some (rs, μ2) => f k rs μ2
      | none => none
    | false => none
  | _ => none
theorem isLst_ok {F H : Hp} {α : List Addr} {μ : Mu} {k : Nat} {ad : Addr} (C : Conc K cl F α μ H) (hk : α[k]? = some ad) (q : isLst μ[k]? = true) : ∃ us, H ad = some (.lst us) := by
  unfold isLst at q
  split at q
  · rename_i xs h
    obtain ⟨us, h1, _⟩ := C.cell k ad _ hk h
    exact ⟨us, h1⟩
  · rename_i xs h
    obtain ⟨us, h1, _⟩ := C.cell k ad _ hk h
    exact ⟨us, h1⟩
  · cases q
theorem se_bm {r : V → List V → Hp → VK → Prop} {f : Nat → List R → Mu → Option (R × Mu)} {mo : ME} {ms : MA} (h : PE X e (tBM X.K "list" r (tm X.K cl mo) (tma X.K cl ms))) (hf : BmSem X.K cl r f) : SE X cl e (mBm f mo ms) := by
  refine PE.weak h fun σ H Q ⟨F, α, δ, μ, z, μ', C, Ee, hm, k⟩ => ?_
  unfold mBm at hm
  split at hm
  · rename_i kk μ1 h1
    split at hm
    rotate_left
    · cases hm
    rename_i hil
    split at hm
    · rename_i rs μ2 h2
      refine ⟨F, α, δ, μ, _, μ1, C, Ee, h1, fun v F1 H1 e1 c1 q1 => ?_⟩
      obtain ⟨ad, q2, rfl⟩ := q1
      obtain ⟨us, q3⟩ := isLst_ok c1 q2 hil
      refine ⟨.inl ⟨rfl, us, SqL.of q3⟩, F1, α, δ, μ1, rs, μ2, c1, Ee.step e1, h2, fun vs F2 H2 e2 c2 q4 => ?_⟩
      exact hf F2 α μ2 μ' H2 kk ad vs rs z Q c2 q2 q4 hm fun v F3 H3 e3 c3 r3 => k v F3 H3 (e1.trans (e2.trans e3)) c3 (r3.back fun p hp => e1.dom p (e2.dom p hp))
    · cases hm
  · cases hm
@[simp] def fAppend (k : Nat) (rs : List R) (μ : Mu) : Option (R × Mu) := match rs with
  | [.dat d] => match μ[k]? with
    | some (.l xs) => if xs.length < 100000 then some (.dat .non, μ.set k (.l (xs ++ [d]))) else none
    | some (.n es) => if es.length < 100000 then some (.dat .non, μ.set k (.n (es ++ [.d d]))) else none
    | _ => none
  | [.cel j] => match nOf μ[k]? with
    | some es => if es.length < 100000 then some (.dat .non, μ.set k (.n (es ++ [.c j]))) else none
    | none => none
  | _ => none
theorem sem_append : BmSem K cl rAppend fAppend := by
  intro F α μ μ' H kk ad vs rs z Q C hk ha hz k
  unfold fAppend at hz
  split at hz
  · rename_i d
    split at hz
    · rename_i xs h1
      split at hz
      · rename_i hl
        cases hz
        obtain ⟨v, rfl, q1⟩ := args1 ha
        obtain ⟨us, q2, q3⟩ := C.cell kk ad _ hk h1
        refine ⟨ad, us, v, rfl, rfl, q2, sz_lt (by rw [q3.length]; exact hl), ?_⟩
        obtain ⟨e5, c5⟩ := C.put hk (q3.append (.cons q1 .nil))
        exact k _ F _ e5 c5 .non
      · cases hz
    · rename_i es h1
      split at hz
      · rename_i hl
        cases hz
        obtain ⟨v, rfl, q1⟩ := args1 ha
        obtain ⟨us, q2, q3⟩ := C.cell kk ad _ hk h1
        refine ⟨ad, us, v, rfl, rfl, q2, sz_lt (by rw [q3.length]; exact hl), ?_⟩
        obtain ⟨e5, c5⟩ := C.putC hk (c := .n (es ++ [.d d])) ⟨_, rfl, q3.append (.cons (v := v) (e := .d d) q1 .nil)⟩
        exact k _ F _ e5 c5 .non
      · cases hz
    · cases hz
  · rename_i j
    split at hz
    · rename_i es h1
      split at hz
      · rename_i hl
        cases hz
        obtain ⟨v, rfl, q1⟩ := args1 ha
        obtain ⟨us, q2, q3⟩ := nOf_ok C hk h1
        refine ⟨ad, us, v, rfl, rfl, q2, sz_lt (by rw [q3.length]; exact hl), ?_⟩
        obtain ⟨e5, c5⟩ := C.putC hk (c := .n (es ++ [.c j])) ⟨_, rfl, q3.append (.cons (v := v) (e := .c j) q1 .nil)⟩
        exact k _ F _ e5 c5 .non
      · cases hz
    · cases hz
  · cases hz
@[simp] def fInsert (k : Nat) (rs : List R) (μ : Mu) : Option (R × Mu) := match rs with
  | [.dat (.int i), .dat d] => match μ[k]? with
    | some (.l xs) => if xs.length < 100000 ∧ 0 ≤ i ∧ i ≤ 100000 then some (.dat .non, μ.set k (.l (xs.take i.toNat ++ [d] ++ xs.drop i.toNat))) else none
    | _ => none
  | _ => none
def rInsert : V → List V → Hp → VK → Prop := fun x vs H Q => ∃ (l : Addr) (xs : List V) (i : Int) (y : V), x = .ref l ∧ vs = [.int i, y] ∧ H l = some (.lst xs) ∧ xs.length < sizeLine ∧ 0 ≤ i ∧ i < 2 ^ 63 ∧
    Q .non (upd H l (.lst (xs.take i.toNat ++ [y] ++ xs.drop i.toNat)))
theorem sem_insert : BmSem K cl rInsert fInsert := by
  intro F α μ μ' H kk ad vs rs z Q C hk ha hz k
  unfold fInsert at hz
  split at hz
  · rename_i i d
    split at hz
    · rename_i xs h1
      split at hz
      · rename_i hl
        cases hz
        obtain ⟨v, w, rfl, q0, q1⟩ := args2 ha
        obtain ⟨us, q2, q3⟩ := C.cell kk ad _ hk h1
        refine ⟨ad, us, i, w, rfl, by rw [rep_int q0], q2, sz_lt (by rw [q3.length]; exact hl.1), hl.2.1, by omega, ?_⟩
        obtain ⟨e5, c5⟩ := C.put hk (((q3.take i.toNat).append (.cons q1 .nil)).append (q3.drop i.toNat))
        exact k _ F _ e5 c5 .non
      · cases hz
    · cases hz
  · cases hz
theorem Reps.erase {F : Hp} : ∀ {vs : List V} {ds : List D} (n : Nat), Reps K cl F vs ds → Reps K cl F (vs.eraseIdx n) (ds.eraseIdx n)
  | _, _, _, .nil => .nil
  | _, _, 0, .cons _ q => q
  | _, _, n + 1, .cons r q => .cons r (Reps.erase n q)
@[simp] def fPopAt (k : Nat) (rs : List R) (μ : Mu) : Option (R × Mu) := match rs with
  | [.dat (.int i)] => match μ[k]? with
    | some (.l xs) => match ixN xs.length i with
      | some j => match xs[j]? with
        | some d => if xs.length ≤ 100000 then some (.dat d, μ.set k (.l (xs.eraseIdx j))) else none
        | none => none
      | none => none
    | _ => none
  | _ => none
theorem sem_popAt : BmSem K cl rPopAt fPopAt := by
  intro F α μ μ' H kk ad vs rs z Q C hk ha hz k
  unfold fPopAt at hz
  split at hz
  · rename_i i
    split at hz
    · rename_i xs h1
      split at hz
      · rename_i j h2
        split at hz
        · rename_i d h3
          split at hz
          · rename_i hl
            cases hz
            obtain ⟨v, rfl, q0⟩ := args1 ha
            obtain ⟨us, q2, q3⟩ := C.cell kk ad _ hk h1
            obtain ⟨y, q4, q5⟩ := q3.get h3
            obtain ⟨s1, s2, s3, s4⟩ := ixN_seq h2
            refine ⟨ad, us, i, j, y, rfl, by rw [rep_int q0], q2, by omega, by omega, by rw [q3.length]; exact s1, q4, ?_⟩
            obtain ⟨e5, c5⟩ := C.put hk (q3.erase j)
            exact k _ F _ e5 c5 q5
          · cases hz
        · cases hz
      · cases hz
    · cases hz
  · cases hz
variable {o : Expr} {mo : ME} {ms : MA} {apos cpos : Pos}
theorem se_append (ho : SE X cl o mo) (ha : SA X cl [e] ms) (hbase : attributeBase o "append" X.env (eval o X.env) = eval o X.env := by rfl)
    (hfew : ((backTo cpos (starEach (e :: []) X.env)).all (fun x => !x.1) && (backToKw cpos (keywordEach [] X.env)).all (fun x => x.1.isSome) && decide ((e :: []).length + ([] : List Keyword).length + (if ([] : List Keyword).isEmpty then 0 else 1) < 30)) = true := by rfl)
    (hline : (apos.endLine == cpos.line) = true := by rfl) (hs : starEach (e :: []) X.env = (false, eval e X.env) :: starEach [] X.env := by rfl) (hplain : (backTo cpos (starEach [] X.env)).any (·.1) = false := by rfl) : SE X cl (.Call (.Attribute o "append" apos) [e] [] cpos) (mBm fAppend mo ms) :=
  se_bm (pe_bm PySem.F.plainAttrs_list PySem.F.slot_list_append PySem.F.type_list_append mt_append ho ha hbase hfew hline hs hplain) sem_append
theorem se_popAt (ho : SE X cl o mo) (ha : SA X cl [e] ms) (hbase : attributeBase o "pop" X.env (eval o X.env) = eval o X.env := by rfl)
    (hfew : ((backTo cpos (starEach (e :: []) X.env)).all (fun x => !x.1) && (backToKw cpos (keywordEach [] X.env)).all (fun x => x.1.isSome) && decide ((e :: []).length + ([] : List Keyword).length + (if ([] : List Keyword).isEmpty then 0 else 1) < 30)) = true := by rfl)
    (hline : (apos.endLine == cpos.line) = true := by rfl) (hs : starEach (e :: []) X.env = (false, eval e X.env) :: starEach [] X.env := by rfl) (hplain : (backTo cpos (starEach [] X.env)).any (·.1) = false := by rfl) : SE X cl (.Call (.Attribute o "pop" apos) [e] [] cpos) (mBm fPopAt mo ms) :=
  se_bm (pe_bm PySem.F.plainAttrs_list PySem.F.slot_list_pop PySem.F.type_list_pop mt_popAt ho ha hbase hfew hline hs hplain) sem_popAt
theorem se_insert {e2 : Expr} (ho : SE X cl o mo) (ha : SA X cl [e, e2] ms) (hbase : attributeBase o "insert" X.env (eval o X.env) = eval o X.env := by rfl)
    (hfew : ((backTo cpos (starEach (e :: [e2]) X.env)).all (fun x => !x.1) && (backToKw cpos (keywordEach [] X.env)).all (fun x => x.1.isSome) && decide ((e :: [e2]).length + ([] : List Keyword).length + (if ([] : List Keyword).isEmpty then 0 else 1) < 30)) = true := by rfl)
    (hline : (apos.endLine == cpos.line) = true := by rfl) (hs : starEach (e :: [e2]) X.env = (false, eval e X.env) :: starEach [e2] X.env := by rfl) (hplain : (backTo cpos (starEach [e2] X.env)).any (·.1) = false := by rfl) : SE X cl (.Call (.Attribute o "insert" apos) [e, e2] [] cpos) (mBm fInsert mo ms) :=
  se_bm (r := rInsert) (pe_bm PySem.F.plainAttrs_list PySem.F.slot_list_insert PySem.F.type_list_insert mt_insert ho ha hbase hfew hline hs hplain) sem_insert

abbrev TGT := D → Sl → Option Sl
def TgSem (K : PySem.W.Frag) (cl : Nat → Addr) (g : TG) (t : TGT) (vs : List Nat) : Prop := ∀ (F : Hp) (α : List Addr) (σ : L2.St) (δ δ' : Sl) (H : Hp) (v : V) (d : D) (Q : L2.St → Hp → Prop), Same F H → EnvOk K cl F α σ δ → Rep K cl F v d → t d δ = some δ' →
  (∀ σ', EnvOk K cl F α σ' δ' → wipe σ' vs = wipe σ vs → Q σ' H) → g v σ H Q
abbrev SG (X : Cx) (cl : Nat → Addr) (tg : Expr) (g : TG) (t : TGT) (vs : List Nat) : Prop := PG X tg g ∧ TgSem X.K cl g t vs
theorem wipe_in {σ : L2.St} {i : Nat} (hi : i < σ.length) : ∀ {vs : List Nat}, i ∈ vs → (wipe σ vs)[i]? = some none
  | v :: vs, h => by
    unfold wipe
    by_cases e : v = i
    · subst e
      rw [List.getElem?_set_self (by rw [wipe_length]; exact hi)]
    · rw [List.getElem?_set_ne e]
      rcases List.mem_cons.mp h with z | z
      · exact absurd z.symm e
      · exact wipe_in hi z
theorem wipe_eq {σ σ' : L2.St} {vs : List Nat} (hl : σ'.length = σ.length) (h : ∀ i, i ∉ vs → σ'[i]? = σ[i]?) : wipe σ' vs = wipe σ vs := by
  apply List.ext_getElem?
  intro i
  by_cases hi : i ∈ vs
  · by_cases hl2 : i < σ.length
    · rw [wipe_in hl2 hi, wipe_in (by rw [hl]; exact hl2) hi]
    · rw [List.getElem?_eq_none (by rw [wipe_length, hl]; omega), List.getElem?_eq_none (by rw [wipe_length]; omega)]
  · rw [wipe_out hi, wipe_out hi]
    exact h i hi
@[simp] def tgName (i : Nat) : TGT := fun d δ => some (δ.set i (.dat d))
@[simp] def tgPair (i j : Nat) : TGT := fun d δ => match d with
  | .tup [x, y] => some ((δ.set i (.dat x)).set j (.dat y))
  | _ => none
theorem sem_name {i : Nat} {vs : List Nat} (h : i ∈ vs) : TgSem K cl (gName i) (tgName i) vs := by
  intro F α σ δ δ' H v d Q sm en hv ht k
  cases ht
  refine k _ (en.put i hv) (wipe_eq (by simp) fun j hj => List.getElem?_set_ne (show i ≠ j from fun z => hj (by rw [← z]; exact h)))
theorem sem_pair {i j : Nat} {vs : List Nat} (h : i ∈ vs) (h' : j ∈ vs) : TgSem K cl (gTup K 2 (gCons (gName i) (gCons (gName j) gNil))) (tgPair i j) vs := by
  intro F α σ δ δ' H v d Q sm en hv ht k
  unfold tgPair at ht
  split at ht
  · rename_i x y
    cases ht
    cases hv with
    | tup q1 q2 =>
      cases q2 with
      | cons r1 q3 =>
        cases q3 with
        | cons r2 q4 =>
          cases q4
          refine ⟨_, _, rfl, Same.sqT sm q1, rfl, _, _, rfl, _, _, rfl, rfl, k _ ((en.put i r1).put j r2) (wipe_eq (by simp) fun l hl => ?_)⟩
          rw [List.getElem?_set_ne (show j ≠ l from fun z => hl (by rw [← z]; exact h')), List.getElem?_set_ne (show i ≠ l from fun z => hl (by rw [← z]; exact h))]
  · cases ht
theorem sg_name {i : Nat} {x : Str} {vs : List Nat} (hN : X.N.Nodup) (h : i ∈ vs := by decide) (hi : X.N[i]? = some x := by rfl) (hx : Loc X.env.scope x := by first | exact .inl rfl | exact .inr rfl) (hf : X.fn x = true ∨ X.env.scope.names.lookup x = some .local := by first | exact .inl rfl | exact .inr rfl) : SG X cl (.Name x pos) (gName i) (tgName i) vs :=
  ⟨pg_name hN hi hx hf, sem_name h⟩
theorem sg_pair {i j : Nat} {x y : Str} {px py : Pos} {kk : Nat} {vs : List Nat} (hN : X.N.Nodup) (h : i ∈ vs := by decide) (h' : j ∈ vs := by decide) (hc : X.calm = true := by rfl) (hi : X.N[i]? = some x := by rfl) (hj : X.N[j]? = some y := by rfl) (hx : Loc X.env.scope x := by first | exact .inl rfl | exact .inr rfl) (hy : Loc X.env.scope y := by first | exact .inl rfl | exact .inr rfl)
    (hf : X.fn x = true ∨ X.env.scope.names.lookup x = some .local := by first | exact .inl rfl | exact .inr rfl) (hf' : X.fn y = true ∨ X.env.scope.names.lookup y = some .local := by first | exact .inl rfl | exact .inr rfl) : SG X cl (.Tuple [.Name x px, .Name y py] kk pos) (gTup X.K 2 (gCons (gName i) (gCons (gName j) gNil))) (tgPair i j) vs :=
  ⟨pg_tup hc (pgs_cons (pg_name hN hi hx hf) (pgs_cons (pg_name hN hj hy hf') pgs_nil)), sem_pair h h'⟩
/-- target = value, by any target -/
@[simp] def mAsg (t : TGT) (m : ME) : MS := fun δ μ => match m δ μ with
  | some (r, μ1) => match toD r with
    | some d => match t d δ with
      | some δ1 => some (.nx δ1 μ1)
      | none => none
    | none => none
  | none => none
theorem ss_asg {tg : Expr} {g : TG} {t : TGT} {vs : List Nat} (he : SE X cl e m) (hg : SG X cl tg g t vs) (hs : swapsWithSole [tg] e pos.line X.env = pure false := by rfl) (hw : swappedStores [tg] e X.env = pure none := by rfl)
    (h1 : (assignEach [tg] X.env).map (·.2) = [assign tg X.env] := by rfl) : SS X cl (.Assign [tg] e pos) (mAsg t m) := by
  refine PS.weak (ps_asg he hg.1 hs hw h1) fun E σ H ⟨F, α, δ, μ, fl, C, Ee, hm, k⟩ => ?_
  unfold mAsg at hm
  split at hm
  · rename_i r μ1 h1
    split at hm
    · rename_i d h2
      split at hm
      · rename_i δ1 h3
        cases hm
        refine ⟨F, α, δ, μ, r, μ1, C, Ee, h1, fun v F1 H1 e1 c1 q1 => ?_⟩
        obtain ⟨F2, e2, c2, q2⟩ := freeze e1 c1 q1
        rw [froz_dat h2] at q2
        exact hg.2 F2 α σ δ δ1 H1 v d _ c2.sub (Ee.step e2) q2 h3 fun σ' en _ => k F2 α σ' H1 e2 c2 en
      · cases hm
    · cases hm
  · cases hm
end
end DL
set_option Elab.async false
set_option linter.all false
set_option maxRecDepth 100000
set_option maxHeartbeats 1000000
namespace DL
open PySem PySem.Spec PyProof.Rows L2

mutual
def beqD : D → D → Bool
  | .non, .non => true
  | .bl a, .bl b => a == b
  | .int a, .int b => a == b
  | .str a, .str b => decide (a = b)
  | .tup a, .tup b => beqDs a b
  | .lst a, .lst b => beqDs a b
  | .scr a, .scr b => decide (a = b)
  | .ins c a, .ins d b => c == d && beqDs a b
  | _, _ => false
def beqDs : List D → List D → Bool
  | [], [] => true
  | a :: as, b :: bs => beqD a b && beqDs as bs
  | _, _ => false
end
mutual
theorem beqD_eq : ∀ {a b : D}, beqD a b = true → a = b
  | .non, b, h => by cases b <;> first | rfl | (simp [beqD] at h)
  | .bl x, b, h => by cases b <;> first | (simp [beqD] at h; subst h; rfl) | (simp [beqD] at h)
  | .int x, b, h => by cases b <;> first | (simp [beqD] at h; subst h; rfl) | (simp [beqD] at h)
  | .str x, b, h => by cases b <;> first | (simp [beqD] at h; subst h; rfl) | (simp [beqD] at h)
  | .scr x, b, h => by cases b <;> first | (simp [beqD] at h; subst h; rfl) | (simp [beqD] at h)
  | .tup xs, b, h => by
    cases b with
    | tup ys => rw [beqDs_eq (a := xs) (b := ys) (by simpa [beqD] using h)]
    | _ => simp [beqD] at h
  | .lst xs, b, h => by
    cases b with
    | lst ys => rw [beqDs_eq (a := xs) (b := ys) (by simpa [beqD] using h)]
    | _ => simp [beqD] at h
  | .ins c xs, b, h => by
    cases b with
    | ins d ys =>
      simp [beqD] at h
      rw [beqDs_eq (a := xs) (b := ys) h.2, h.1]
    | _ => simp [beqD] at h
theorem beqDs_eq : ∀ {a b : List D}, beqDs a b = true → a = b
  | [], [], _ => rfl
  | [], _ :: _, h => by simp [beqDs] at h
  | _ :: _, [], h => by simp [beqDs] at h
  | a :: as, b :: bs, h => by
    simp [beqDs] at h
    rw [beqD_eq h.1, beqDs_eq h.2]
end
mutual
theorem beqD_refl : ∀ a : D, beqD a a = true
  | .non => rfl
  | .bl _ => by simp [beqD]
  | .int _ => by simp [beqD]
  | .str _ => by simp [beqD]
  | .scr _ => by simp [beqD]
  | .tup xs => by simp [beqD, beqDs_refl xs]
  | .lst xs => by simp [beqD, beqDs_refl xs]
  | .ins c xs => by simp [beqD, beqDs_refl xs]
theorem beqDs_refl : ∀ a : List D, beqDs a a = true
  | [] => rfl
  | a :: as => by simp [beqDs, beqD_refl a, beqDs_refl as]
end

abbrev MI := Sl → Mu → Option (List D × (Mu → Bool) × Mu)
def WalkD (K : PySem.W.Frag) (cl : Nat → Addr) (F : Hp) (α : List Addr) (J : It) (xs : List D) (gd : Mu → Bool) : Prop := ∃ (G : Hp → Prop) (Y : Nat → Hp → V → Hp → Prop), Walk J xs.length G Y ∧
  (∀ F1 α1 μ1 H1, Same F F1 → (∃ e, α1 = α ++ e) → Conc K cl F1 α1 μ1 H1 → gd μ1 = true → G H1) ∧
  (∀ (i : Nat) d F1 α1 μ1 H1 x H2, xs[i]? = some d → Same F F1 → (∃ e, α1 = α ++ e) → Conc K cl F1 α1 μ1 H1 → gd μ1 = true → Y i H1 x H2 → ∃ F2, Evo F1 α1 H1 F2 α1 H2 ∧ Conc K cl F2 α1 μ1 H2 ∧ Rep K cl F2 x d)
def tmi (K : PySem.W.Frag) (cl : Nat → Addr) (m : MI) : TI := fun σ H Q => ∃ F α δ μ xs gd μ', Conc K cl F α μ H ∧ EnvOk K cl F α σ δ ∧ m δ μ = some (xs, gd, μ') ∧
  ∀ J F' H', Evo F α H F' α H' → Conc K cl F' α μ' H' → WalkD K cl F' α J xs gd → Q J H'
abbrev SI (X : Cx) (cl : Nat → Addr) (tg e : Expr) (m : MI) : Prop := PI X tg e (tmi X.K cl m)
theorem PI.weak {X : Cx} {tg e : Expr} {t t' : TI} (h : PI X tg e t) (k : ∀ σ H Q, t' σ H Q → t σ H Q) : PI X tg e t' := ⟨fun pins s σ H Q I hw => h.run pins s σ H Q I (k σ H Q hw)⟩
section
variable {X : Cx} {cl : Nat → Addr} {e a b c tg : Expr} {es : List Expr} {m ma mb mc : ME} {pos p : Pos} {K : PySem.W.Frag} {mt : MT} {m1 m2 : MS} {st : Stmt} {sts : List Stmt} {ms : MA}
abbrev yes : Mu → Bool := fun _ => true
/-- over a list, a tuple that stays, or a cell (as long as it is what it was) -/
@[simp] def mItL (m : ME) : MI := fun δ μ => match m δ μ with
  | some (.cel k, μ1) => match μ1[k]? with
    | some (.l xs) => some (xs, (fun μ2 => match μ2[k]? with
      | some (.l ys) => beqDs ys xs
      | _ => false), μ1)
    | _ => none
  | some (r, μ1) => match sqOf (froz r) μ1 with
    | some (.l xs) => some (xs, yes, μ1)
    | _ => none
  | none => none
@[simp] def mItT (m : ME) : MI := fun δ μ => match m δ μ with
  | some (r, μ1) => match sqOf (froz r) μ1 with
    | some (.t xs) => some (xs, yes, μ1)
    | _ => none
  | none => none
theorem walkd_at {F : Hp} {α : List Addr} {J : It} {xs : List D} {vs : List V} {G : Hp → Prop} (w : Walk J vs.length G (YAt vs)) (h : Reps K cl F vs xs) (hG : ∀ F1 H1, Same F F1 → Same F1 H1 → G H1) : WalkD K cl F α J xs yes := by
  refine ⟨G, YAt vs, by rw [← h.length]; exact w, fun F1 α1 μ1 H1 sm _ c _ => hG F1 H1 sm c.sub, fun i d F1 α1 μ1 H1 x H2 hd sm _ c _ y => ?_⟩
  obtain ⟨rfl, y⟩ := y
  obtain ⟨v, q1, q2⟩ := h.get hd
  rw [y] at q1
  cases q1
  exact ⟨F1, Evo.refl, c, q2.mono sm⟩
/-- the place of what is frozen -/
theorem sqFz {F H H0 : Hp} {α : List Addr} {μ : Mu} {x : V} {r : R} {q : Sq} (C : Conc K cl F α μ H) (h : RepR K cl H0 F α H x (froz r)) (hc : ∀ k, r ≠ .cel k) (e : sqOf (froz r) μ = some q) : ∃ a vs, x = .ref a ∧ Reps K cl F vs q.all ∧ q.At K F a vs := by
  cases r with
  | no => cases h
  | fc c => cases e
  | cel k => exact absurd rfl (hc k)
  | fr ys =>
    cases e
    cases h with
    | lst h1 h2 => exact ⟨_, _, rfl, h2, SqL.of h1⟩
  | dat d =>
    cases d with
    | tup ys =>
      cases e
      cases h with
      | tup h1 h2 => exact ⟨_, _, rfl, h2, h1⟩
    | lst ys =>
      cases e
      cases h with
      | lst h1 h2 => exact ⟨_, _, rfl, h2, SqL.of h1⟩
    | scr ns =>
      cases e
      cases h with
      | scr h1 => exact ⟨_, _, rfl, Reps.ints ns, h1⟩
    | _ => cases e
theorem si_list (h : SE X cl e m) : SI X cl tg e (mItL m) := by
  refine PI.weak (pi_list h) fun σ H Q ⟨F, α, δ, μ, xs, gd, μ', C, Ee, hm, k⟩ => ?_
  unfold mItL at hm
  split at hm
  · rename_i kk μ1 h1
    split at hm
    · rename_i xs h2
      cases hm
      refine ⟨F, α, δ, μ, _, μ', C, Ee, h1, fun v F1 H1 e1 c1 q1 => ?_⟩
      obtain ⟨ad, q2, rfl⟩ := q1
      obtain ⟨us, q3, q4⟩ := c1.cell kk ad _ q2 h2
      refine ⟨ad, rfl, ⟨us, SqL.of q3⟩, k _ F1 H1 e1 c1 ⟨fun H2 => ∃ ws, ws.length = xs.length ∧ SqL X.K H2 ad ws, fun i H2 x H3 => H3 = H2 ∧ ∀ ws, SqL X.K H2 ad ws → ws[i]? = some x, ⟨fun i H2 hi ⟨ws, l, hs⟩ => ?_, fun H2 ⟨ws, l, hs⟩ => ?_, fun i H2 x H3 hi ⟨ws, l, hs⟩ y => ?_⟩, fun F2 α2 μ2 H2 sm ex c2 g2 => ?_, fun i d F2 α2 μ2 H2 x H3 hd sm ex c2 g2 y => ?_⟩⟩
      · exact ⟨ws, ws[i]'(by omega), hs, List.getElem?_eq_getElem _⟩
      · exact ⟨ws, hs, by omega⟩
      · exact y
      · simp only at g2
        split at g2
        · rename_i zs e2
          have e3 := beqDs_eq g2
          subst e3
          obtain ⟨x, rfl⟩ := ex
          obtain ⟨ws, g3, g4⟩ := c2.cell kk ad _ (by rw [List.getElem?_append_left (List.getElem?_eq_some_iff.mp q2).1]; exact q2) e2
          exact ⟨ws, g4.length, SqL.of g3⟩
        · cases g2
      · simp only at g2
        split at g2
        · rename_i zs e2
          have e3 := beqDs_eq g2
          subst e3
          obtain ⟨x', rfl⟩ := ex
          obtain ⟨rfl, hx'⟩ := y
          obtain ⟨ws, g3, g4⟩ := c2.cell kk ad _ (by rw [List.getElem?_append_left (List.getElem?_eq_some_iff.mp q2).1]; exact q2) e2
          obtain ⟨v, g5, g6⟩ := g4.get hd
          have hx := hx' ws (SqL.of g3)
          rw [g5] at hx
          cases hx
          exact ⟨F2, Evo.refl, c2, g6⟩
        · cases g2
    · cases hm
  · rename_i r μ1 hnc h1
    split at hm
    · rename_i ys h2
      cases hm
      refine ⟨F, α, δ, μ, _, μ', C, Ee, h1, fun v F1 H1 e1 c1 q1 => ?_⟩
      obtain ⟨F2, e2, c2, r2⟩ := freeze e1 c1 q1
      obtain ⟨ad, vs, rfl, q2, q3⟩ := sqFz c2 r2 (fun kk z => hnc kk z) h2
      have q3' : SqL X.K F2 ad vs := q3
      exact ⟨ad, rfl, ⟨vs, c2.sub.seq q3'⟩, k _ F2 H1 e2 c2 (walkd_at walk_list q2 fun F3 H3 s1 s2 => (s1.trans s2).seq q3')⟩
    · cases hm
  · cases hm
theorem si_tup (h : SE X cl e m) : SI X cl tg e (mItT m) := by
  refine PI.weak (pi_tup h) fun σ H Q ⟨F, α, δ, μ, xs, gd, μ', C, Ee, hm, k⟩ => ?_
  unfold mItT at hm
  split at hm
  · rename_i r μ1 h1
    split at hm
    · rename_i ys h2
      cases hm
      refine ⟨F, α, δ, μ, _, μ', C, Ee, h1, fun v F1 H1 e1 c1 q1 => ?_⟩
      obtain ⟨F2, e2, c2, r2⟩ := freeze e1 c1 q1
      have hnc : ∀ kk, r ≠ .cel kk := fun kk z => by
        subst z
        simp only [froz, sqOf] at h2
        cases e7 : lstOf (.cel kk) μ' with
        | none =>
          rw [e7] at h2
          cases h2
        | some w =>
          rw [e7] at h2
          cases h2
      obtain ⟨ad, vs, rfl, q2, q3⟩ := sqFz c2 r2 hnc h2
      have q3' : SqT X.K F2 ad vs := q3
      exact ⟨ad, rfl, ⟨vs, Same.sqT c2.sub q3'⟩, k _ F2 H1 e2 c2 (walkd_at walk_tup q2 fun F3 H3 s1 s2 => Same.sqT (s1.trans s2) q3')⟩
    · cases hm
  · cases hm
end
end DL
set_option Elab.async false
set_option linter.all false
set_option maxRecDepth 100000
set_option maxHeartbeats 1000000
namespace DL
open PySem PySem.Spec PyProof.Rows L2
section
variable {X : Cx} {cl : Nat → Addr} {e a b c tg : Expr} {es : List Expr} {m ma mb mc : ME} {pos p : Pos} {K : PySem.W.Frag} {mt : MT} {m1 m2 : MS} {st : Stmt} {sts : List Stmt} {ms : MA}

theorem walkd_range {F : Hp} {α : List Addr} {lo hi : Int} : WalkD K cl F α (Itr lo (hi - lo).toNat) (rgD lo hi) yes := by
  refine ⟨fun _ => True, YFn fun i => .int (lo + i), ?_, fun _ _ _ _ _ _ _ _ => trivial, fun i d F1 α1 μ1 H1 x H2 hd sm _ c _ y => ?_⟩
  · have : (rgD lo hi).length = (hi - lo).toNat := by unfold rgD; rw [List.length_map, List.length_range]
    rw [this]
    exact walk_range
  · obtain ⟨rfl, rfl⟩ := y
    refine ⟨F1, Evo.refl, c, ?_⟩
    unfold rgD at hd
    rw [List.getElem?_map] at hd
    obtain ⟨j, hj, rfl⟩ := Option.map_eq_some_iff.mp hd
    obtain ⟨hlt, hj2⟩ := List.getElem?_eq_some_iff.mp hj
    rw [List.getElem_range] at hj2
    subst hj2
    exact .int _
@[simp] def mItR1 (ms : MA) : MI := fun δ μ => match ms δ μ with
  | some ([.dat (.int j)], μ1) => if -(2 ^ 62) ≤ j ∧ j < 2 ^ 62 then some (rgD 0 j, yes, μ1) else none
  | _ => none
@[simp] def mItR2 (ms : MA) : MI := fun δ μ => match ms δ μ with
  | some ([.dat (.int i), .dat (.int j)], μ1) => if -(2 ^ 62) ≤ i ∧ i < 2 ^ 62 ∧ -(2 ^ 62) ≤ j ∧ j < 2 ^ 62 then some (rgD i j, yes, μ1) else none
  | _ => none
theorem si_range1 (hm : X.mg "range" = none) (ha : SA X cl [a] ms) (hg : Gl X "range" := by rfl) (hs : starEach [a] X.env = [(false, eval a X.env)] := by rfl) : SI X cl tg (.Call (.Name "range" p) [a] [] pos) (mItR1 ms) := by
  refine PI.weak (pi_range1 hg hm ha hs) fun σ H Q ⟨F, α, δ, μ, xs, gd, μ', C, Ee, hm, k⟩ => ?_
  unfold mItR1 at hm
  split at hm
  · rename_i j μ1 h1
    split at hm
    · rename_i h2
      cases hm
      refine ⟨F, α, δ, μ, _, μ', C, Ee, h1, fun vs F1 H1 e1 c1 q1 => ?_⟩
      obtain ⟨v, rfl, q2⟩ := args1 q1
      refine ⟨j, by rw [rep_int q2], h2.1, h2.2, ?_⟩
      have := k (Itr 0 (j - 0).toNat) F1 H1 e1 c1 walkd_range
      rw [Int.sub_zero] at this
      exact this
    · cases hm
  · cases hm
theorem si_range2 (hm : X.mg "range" = none) (ha : SA X cl [a, b] ms) (hg : Gl X "range" := by rfl) (hs : starEach [a, b] X.env = [(false, eval a X.env), (false, eval b X.env)] := by rfl) (hs2 : starEach [b] X.env = [(false, eval b X.env)] := by rfl) : SI X cl tg (.Call (.Name "range" p) [a, b] [] pos) (mItR2 ms) := by
  refine PI.weak (pi_range2 hg hm ha hs hs2) fun σ H Q ⟨F, α, δ, μ, xs, gd, μ', C, Ee, hm, k⟩ => ?_
  unfold mItR2 at hm
  split at hm
  · rename_i i j μ1 h1
    split at hm
    · rename_i h2
      cases hm
      refine ⟨F, α, δ, μ, _, μ', C, Ee, h1, fun vs F1 H1 e1 c1 q1 => ?_⟩
      obtain ⟨v, w, rfl, q2, q3⟩ := args2 q1
      exact ⟨i, j, by rw [rep_int q2, rep_int q3], h2, k _ F1 H1 e1 c1 walkd_range⟩
    · cases hm
  · cases hm

theorem Conc.pair {F H : Hp} {α : List Addr} {μ : Mu} {T : Addr} {v w : V} {x y : D} (C : Conc K cl F α μ H) (hT : H T = none) (h1 : Rep K cl F v x) (h2 : Rep K cl F w y) :
    ∃ F2, Evo F α H F2 α (upd H T (.tup [v, w])) ∧ Conc K cl F2 α μ (upd H T (.tup [v, w])) ∧ Rep K cl F2 (.ref T) (.tup [x, y]) := by
  obtain ⟨e2, c2⟩ := C.new (o := .tup [v, w]) hT
  exact ⟨_, e2, c2, .tup (SqT.of upd_same) (.cons (h1.mono e2.ff) (.cons (h2.mono e2.ff) .nil))⟩
def pairsD : List D → List D → List D
  | x :: xs, y :: ys => .tup [x, y] :: pairsD xs ys
  | _, _ => []
theorem pairsD_len : ∀ xs ys : List D, (pairsD xs ys).length = min xs.length ys.length
  | [], [] => rfl
  | [], _ :: _ => rfl
  | _ :: _, [] => by simp [pairsD]
  | x :: xs, y :: ys => by simp [pairsD, pairsD_len xs ys]
theorem pairsD_get : ∀ {xs ys : List D} {i : Nat} {d : D}, (pairsD xs ys)[i]? = some d → ∃ x y, xs[i]? = some x ∧ ys[i]? = some y ∧ d = .tup [x, y]
  | [], _, _, _, h => by simp [pairsD] at h
  | _ :: _, [], _, _, h => by simp [pairsD] at h
  | x :: xs, y :: ys, 0, d, h => by
    simp [pairsD] at h
    exact ⟨x, y, rfl, rfl, h.symm⟩
  | x :: xs, y :: ys, i + 1, d, h => by
    obtain ⟨u, w, h1, h2, h3⟩ := pairsD_get (xs := xs) (ys := ys) (i := i) (d := d) (by simpa [pairsD] using h)
    exact ⟨u, w, by simpa using h1, by simpa using h2, h3⟩
theorem walk_zipT {K : PySem.W.Frag} {a b : Addr} {xs ys : List V} {n : Nat} (hn : n = min xs.length ys.length) : Walk (RZ.ItzT K a b) n (fun H => SqT K H a xs ∧ SqT K H b ys) (YPair (fun i => xs[i]?) (fun i => ys[i]?)) := by
  subst hn
  refine ⟨fun i H hi ⟨h1, h2⟩ => ⟨xs, ys, xs[i]'(by omega), ys[i]'(by omega), h1, h2, List.getElem?_eq_getElem _, List.getElem?_eq_getElem _⟩, fun H ⟨h1, h2⟩ => ⟨xs, ys, h1, h2, by omega⟩, fun i H v H' _ ⟨h1, h2⟩ y => ?_⟩
  obtain ⟨T, x1, x2, e1, e2, e3, g1, g2⟩ := y
  exact ⟨T, x1, x2, e1, e2, e3, g1 xs h1, g2 ys h2⟩
@[simp] def mItZ (ms : MA) : MI := fun δ μ => match ms δ μ with
  | some ([x, y], μ1) => match x, y with
    | .dat (.lst xs), .dat (.lst ys) => some (pairsD xs ys, yes, μ1)
    | .dat (.tup xs), .dat (.tup ys) => some (pairsD xs ys, yes, μ1)
    | _, _ => none
  | _ => none
theorem walkd_pair {F : Hp} {α : List Addr} {J : It} {xs ys : List D} {vs ws : List V} {G : Hp → Prop} (w : Walk J (min vs.length ws.length) G (YPair (fun i => vs[i]?) (fun i => ws[i]?))) (h : Reps K cl F vs xs) (h' : Reps K cl F ws ys) (hG : ∀ F1 H1, Same F F1 → Same F1 H1 → G H1) : WalkD K cl F α J (pairsD xs ys) yes := by
  refine ⟨G, _, by rw [pairsD_len, ← h.length, ← h'.length]; exact w, fun F1 α1 μ1 H1 sm _ c _ => hG F1 H1 sm c.sub, fun i d F1 α1 μ1 H1 x H2 hd sm _ c _ y => ?_⟩
  obtain ⟨T, v1, v2, rfl, hT, rfl, g1, g2⟩ := y
  obtain ⟨d1, d2, k1, k2, rfl⟩ := pairsD_get hd
  obtain ⟨u1, l1, r1⟩ := h.get k1
  obtain ⟨u2, l2, r2⟩ := h'.get k2
  have g1' : vs[i]? = some v1 := g1
  have g2' : ws[i]? = some v2 := g2
  rw [l1] at g1'
  rw [l2] at g2'
  cases g1'
  cases g2'
  exact c.pair hT (r1.mono sm) (r2.mono sm)
theorem si_zip {elts : List Expr} {kk : Nat} {tpos : Pos} (hm : X.mg "zip" = none) (ha : SA X cl [a, b] ms) (hg : Gl X "zip" := by rfl) (hs : starEach [a, b] X.env = (false, eval a X.env) :: starEach [b] X.env := by rfl) (hpl : (backTo pos (starEach [b] X.env)).any (·.1) = false := by rfl) :
    SI X cl (.Tuple elts kk tpos) (.Call (.Name "zip" p) [a, b] [] pos) (mItZ ms) := by
  refine PI.weak (RZ.pi_zipA hg hm ha hs hpl) fun σ H Q ⟨F, α, δ, μ, xs, gd, μ', C, Ee, hm, k⟩ => ?_
  unfold mItZ at hm
  split at hm
  · rename_i r1 r2 μ1 h1
    split at hm
    · rename_i ys zs
      cases hm
      refine ⟨F, α, δ, μ, _, μ', C, Ee, h1, fun vs F1 H1 e1 c1 q1 => ?_⟩
      obtain ⟨v, w, rfl, q2, q3⟩ := args2 q1
      cases q2 with
      | lst g1 g2 =>
        cases q3 with
        | lst g3 g4 =>
          exact ⟨_, _, _, _, rfl, .inl ⟨SqL.of (c1.sub _ _ g1), SqL.of (c1.sub _ _ g3), k _ F1 H1 e1 c1 (walkd_pair (walk_zip rfl) g2 g4 fun F2 H2 s1 s2 => ⟨SqL.of ((s1.trans s2) _ _ g1), SqL.of ((s1.trans s2) _ _ g3)⟩)⟩⟩
    · rename_i ys zs
      cases hm
      refine ⟨F, α, δ, μ, _, μ', C, Ee, h1, fun vs F1 H1 e1 c1 q1 => ?_⟩
      obtain ⟨v, w, rfl, q2, q3⟩ := args2 q1
      cases q2 with
      | tup g1 g2 =>
        cases q3 with
        | tup g3 g4 =>
          exact ⟨_, _, _, _, rfl, .inr ⟨Same.sqT c1.sub g1, Same.sqT c1.sub g3, k _ F1 H1 e1 c1 (walkd_pair (walk_zipT rfl) g2 g4 fun F2 H2 s1 s2 => ⟨Same.sqT (s1.trans s2) g1, Same.sqT (s1.trans s2) g3⟩)⟩⟩
    · cases hm
  · cases hm

def enumD : Nat → List D → List D
  | _, [] => []
  | i, x :: xs => .tup [.int (i : Nat), x] :: enumD (i + 1) xs
theorem enumD_len : ∀ (i : Nat) (xs : List D), (enumD i xs).length = xs.length
  | _, [] => rfl
  | i, x :: xs => by simp [enumD, enumD_len (i + 1) xs]
theorem enumD_get : ∀ {xs : List D} {j i : Nat} {d : D}, (enumD j xs)[i]? = some d → ∃ x, xs[i]? = some x ∧ d = .tup [.int ((j + i : Nat) : Int), x]
  | [], _, _, _, h => by simp [enumD] at h
  | x :: xs, j, 0, d, h => by
    simp [enumD] at h
    exact ⟨x, rfl, h.symm⟩
  | x :: xs, j, i + 1, d, h => by
    obtain ⟨u, h1, h2⟩ := enumD_get (xs := xs) (j := j + 1) (i := i) (d := d) (by simpa [enumD] using h)
    exact ⟨u, by simpa using h1, by rw [h2, show j + 1 + i = j + (i + 1) by omega]⟩
@[simp] def mItE (ms : MA) : MI := fun δ μ => match ms δ μ with
  | some ([.dat (.lst xs)], μ1) => some (enumD 0 xs, yes, μ1)
  | _ => none
theorem si_enum {elts : List Expr} {kk : Nat} {tpos : Pos} (hm : X.mg "enumerate" = none) (ha : SA X cl [a] ms) (hg : Gl X "enumerate" := by rfl) (hs : starEach [a] X.env = [(false, eval a X.env)] := by rfl) :
    SI X cl (.Tuple elts kk tpos) (.Call (.Name "enumerate" p) [a] [] pos) (mItE ms) := by
  refine PI.weak (pi_enum hg hm ha hs) fun σ H Q ⟨F, α, δ, μ, xs, gd, μ', C, Ee, hm, k⟩ => ?_
  unfold mItE at hm
  split at hm
  · rename_i ys μ1 h1
    cases hm
    refine ⟨F, α, δ, μ, _, μ', C, Ee, h1, fun vs F1 H1 e1 c1 q1 => ?_⟩
    obtain ⟨v, rfl, q2⟩ := args1 q1
    cases q2 with
    | @lst ad us ds g1 g2 =>
      refine ⟨ad, us, rfl, SqL.of (c1.sub _ _ g1), k _ F1 H1 e1 c1 ⟨fun H => SqL X.K H ad us, YPair (fun i => some (.int (i : Nat))) (fun i => us[i]?), ?_, fun F2 α2 μ2 H2 s1 _ c2 _ => SqL.of ((s1.trans c2.sub) _ _ g1), fun i d F2 α2 μ2 H2 x H3 hd sm _ c _ y => ?_⟩⟩
      · rw [enumD_len, ← g2.length]
        exact walk_enum
      · obtain ⟨T, v1, v2, rfl, hT, rfl, l1, l2⟩ := y
        obtain ⟨d2, k2, rfl⟩ := enumD_get hd
        obtain ⟨u2, l3, r2⟩ := g2.get k2
        have l2' : us[i]? = some v2 := l2
        rw [l3] at l2'
        cases l2'
        cases l1
        rw [Nat.zero_add]
        exact c.pair hT (.int _) (r2.mono sm)
  · cases hm

def loop (gd : Mu → Bool) (t : TGT) (mb : MS) : List D → Sl → Mu → Option Flo
  | [], δ, μ => if gd μ = true then some (.nx δ μ) else none
  | x :: xs, δ, μ => if gd μ = true then match t x δ with
      | none => none
      | some δ1 => match mb δ1 μ with
        | some (.nx δ2 μ2) => loop gd t mb xs δ2 μ2
        | some (.ct δ2 μ2) => loop gd t mb xs δ2 μ2
        | some (.bk δ2 μ2) => some (.nx δ2 μ2)
        | some (.rt r μ2) => some (.rt r μ2)
        | none => none
    else none
@[simp] def mFor (mi : MI) (t : TGT) (mb : MS) : MS := fun δ μ => match mi δ μ with
  | none => none
  | some (xs, gd, μ1) => loop gd t mb xs δ μ1
theorem ss_for {mi : MI} {t : TGT} {g : TG} {vs : List Nat} (hi : SI X cl tg e mi) (hg : SG X cl tg g t vs) (hb : SSs X cl sts m1) (hp : PassesOwn (model X.prog X.w) X.A X.env X.xe := by exact PassesOwn.never) (hc : X.calm = true := by rfl) (hs : ∀ x, foldedSetIterable e X.env x = pure x := by intro _; rfl) :
    SS X cl (.For tg e sts [] pos) (mFor mi t m1) := by
  refine PS.weak (ps_for hp hc hi hg.1 hb hs) fun E σ H ⟨F, α, δ, μ, fl, C, Ee, hm, k⟩ => ?_
  unfold mFor at hm
  split at hm
  · cases hm
  rename_i xs gd μ1 h1
  refine ⟨F, α, δ, μ, xs, gd, μ1, C, Ee, h1, fun J F1 H1 e1 c1 W => ?_⟩
  obtain ⟨G, Y, w, hG, hY⟩ := W
  have gdOf : ∀ {i : Nat} {δ2 : Sl} {μ2 : Mu}, loop gd t m1 (xs.drop i) δ2 μ2 = some fl → gd μ2 = true := by
    intro i δ2 μ2 h
    cases e : xs.drop i with
    | nil =>
      rw [e] at h
      unfold loop at h
      split at h
      · rename_i z
        exact z
      · cases h
    | cons x r =>
      rw [e] at h
      unfold loop at h
      split at h
      · rename_i z
        exact z
      · cases h
  refine for_it w (fun i σ2 H2 => ∃ F2 α2 δ2 μ2, Evo F1 α H1 F2 α2 H2 ∧ Conc X.K cl F2 α2 μ2 H2 ∧ EnvOk X.K cl F2 α2 σ2 δ2 ∧ loop gd t m1 (xs.drop i) δ2 μ2 = some fl) ⟨F1, α, δ, μ1, Evo.refl, c1, Ee.step e1, hm⟩ ?_ ?_ ?_
  · rintro i σ2 H2 _ ⟨F2, α2, δ2, μ2, e2, c2, en2, h2⟩
    exact hG F2 α2 μ2 H2 e2.ff e2.ext c2 (gdOf h2)
  · rintro i x σ2 H2 H3 hi ⟨F2, α2, δ2, μ2, e2, c2, en2, h2⟩ y
    have gt := gdOf h2
    rw [List.drop_eq_getElem_cons hi] at h2
    unfold loop at h2
    rw [if_pos gt] at h2
    split at h2
    · cases h2
    rename_i δ3 h3
    obtain ⟨F3, e3, c3, r3⟩ := hY i xs[i] F2 α2 μ2 H2 x H3 (List.getElem?_eq_getElem hi) e2.ff e2.ext c2 gt y
    refine hg.2 F3 α2 σ2 δ2 δ3 H3 x xs[i] _ c3.sub (en2.step e3) r3 h3 fun σ3 en3 _ => ?_
    have fin : ∀ {δ4 : Sl} {μ4 : Mu}, loop gd t m1 (xs.drop (i + 1)) δ4 μ4 = some fl → ∀ F4 α4 σ4 H4, Evo F3 α2 H3 F4 α4 H4 → Conc X.K cl F4 α4 μ4 H4 → EnvOk X.K cl F4 α4 σ4 δ4 → ∃ F5 α5 δ5 μ5, Evo F1 α H1 F5 α5 H4 ∧ Conc X.K cl F5 α5 μ5 H4 ∧ EnvOk X.K cl F5 α5 σ4 δ5 ∧ loop gd t m1 (xs.drop (i + 1)) δ5 μ5 = some fl :=
      fun h F4 α4 σ4 H4 e4 c4 en4 => ⟨F4, α4, _, _, e2.trans (e3.trans e4), c4, en4, h⟩
    split at h2
    · rename_i δ4 μ4 h4
      exact ⟨F3, α2, δ3, μ2, _, c3, en3, h4, fun F4 α4 σ4 H4 e4 c4 en4 => fin h2 F4 α4 σ4 H4 e4 c4 en4⟩
    · rename_i δ4 μ4 h4
      exact ⟨F3, α2, δ3, μ2, _, c3, en3, h4, fun F4 α4 σ4 H4 e4 c4 en4 => fin h2 F4 α4 σ4 H4 e4 c4 en4⟩
    · rename_i δ4 μ4 h4
      cases h2
      exact ⟨F3, α2, δ3, μ2, _, c3, en3, h4, fun F4 α4 σ4 H4 e4 c4 en4 => k F4 α4 σ4 H4 (e1.trans (e2.trans (e3.trans e4))) c4 en4⟩
    · rename_i r4 μ4 h4
      cases h2
      exact ⟨F3, α2, δ3, μ2, _, c3, en3, h4, fun v F4 α4 H4 e4 c4 r5 => k v F4 α4 H4 (e1.trans (e2.trans (e3.trans e4))) c4 (r5.back fun p hp => e1.dom p (e2.dom p (e3.dom p hp)))⟩
    · cases h2
  · rintro σ2 H2 ⟨F2, α2, δ2, μ2, e2, c2, en2, h2⟩
    rw [List.drop_length] at h2
    unfold loop at h2
    split at h2
    · cases h2
      exact k F2 α2 σ2 H2 (e1.trans e2) c2 en2
    · cases h2

def wh (mt : MT) (mb : MS) : Nat → Sl → Mu → Option Flo
  | 0, _, _ => none
  | n + 1, δ, μ => match mt δ μ with
    | none => none
    | some (false, μ1) => some (.nx δ μ1)
    | some (true, μ1) => match mb δ μ1 with
      | some (.nx δ2 μ2) => wh mt mb n δ2 μ2
      | some (.ct δ2 μ2) => wh mt mb n δ2 μ2
      | some (.bk δ2 μ2) => some (.nx δ2 μ2)
      | some (.rt r μ2) => some (.rt r μ2)
      | none => none
theorem ss_while {n : Nat} (hc : ST X cl c mt) (hb : SSs X cl sts m1) (hp : PassesOwn (model X.prog X.w) X.A X.env X.xe := by exact PassesOwn.never) : SS X cl (.While c sts [] pos) (wh mt m1 n) := by
  refine PS.weak (ps_while hp hc hb) fun E σ H ⟨F, α, δ, μ, fl, C, Ee, hm, k⟩ => ?_
  refine ⟨fun j σ2 H2 => ∃ F2 α2 δ2 μ2, Evo F α H F2 α2 H2 ∧ Conc X.K cl F2 α2 μ2 H2 ∧ EnvOk X.K cl F2 α2 σ2 δ2 ∧ wh mt m1 j δ2 μ2 = some fl, ⟨n, F, α, δ, μ, Evo.refl, C, Ee, hm⟩, ?_⟩
  rintro j σ2 H2 ⟨F2, α2, δ2, μ2, e2, c2, en2, h2⟩
  cases j with
  | zero => cases h2
  | succ j =>
    unfold wh at h2
    split at h2
    · cases h2
    · rename_i μ3 h3
      cases h2
      exact ⟨F2, α2, δ2, μ2, _, μ3, c2, en2, h3, fun F3 H3 e3 c3 => iteF (k F3 α2 σ2 H3 (e2.trans e3) c3 (en2.step e3))⟩
    · rename_i μ3 h3
      refine ⟨F2, α2, δ2, μ2, _, μ3, c2, en2, h3, fun F3 H3 e3 c3 => iteT ⟨fun σ' H' => ∃ m', m' < j + 1 ∧ ∃ F2 α2 δ2 μ2, Evo F α H F2 α2 H' ∧ Conc X.K cl F2 α2 μ2 H' ∧ EnvOk X.K cl F2 α2 σ' δ2 ∧ wh mt m1 m' δ2 μ2 = some fl, fun _ _ h => h, ?_⟩⟩
      split at h2
      · rename_i δ4 μ4 h4
        exact ⟨F3, α2, δ2, μ3, _, c3, en2.step e3, h4, fun F4 α4 σ4 H4 e4 c4 en4 => ⟨j, Nat.lt_succ_self j, F4, α4, δ4, μ4, e2.trans (e3.trans e4), c4, en4, h2⟩⟩
      · rename_i δ4 μ4 h4
        exact ⟨F3, α2, δ2, μ3, _, c3, en2.step e3, h4, fun F4 α4 σ4 H4 e4 c4 en4 => ⟨j, Nat.lt_succ_self j, F4, α4, δ4, μ4, e2.trans (e3.trans e4), c4, en4, h2⟩⟩
      · rename_i δ4 μ4 h4
        cases h2
        exact ⟨F3, α2, δ2, μ3, _, c3, en2.step e3, h4, fun F4 α4 σ4 H4 e4 c4 en4 => k F4 α4 σ4 H4 (e2.trans (e3.trans e4)) c4 en4⟩
      · rename_i r4 μ4 h4
        cases h2
        exact ⟨F3, α2, δ2, μ3, _, c3, en2.step e3, h4, fun v F4 α4 H4 e4 c4 r5 => k v F4 α4 H4 (e2.trans (e3.trans e4)) c4 (r5.back fun p hp => e2.dom p (e3.dom p hp))⟩
      · cases h2
end
end DL
set_option Elab.async false
set_option linter.all false
set_option maxRecDepth 100000
set_option maxHeartbeats 1000000
namespace DL
open PySem PySem.Spec PyProof.Rows L2
def lcLoop (gd : Mu → Bool) (t : TGT) (mt : MT) (me : ME) (δ : Sl) : List D → List D → Mu → Option (List D × Mu)
  | [], acc, μ => if gd μ = true then some (acc, μ) else none
  | x :: xs, acc, μ => if gd μ = true then match t x δ with
      | none => none
      | some δ1 => match mt δ1 μ with
        | none => none
        | some (false, μ1) => lcLoop gd t mt me δ xs acc μ1
        | some (true, μ1) => match me δ1 μ1 with
          | none => none
          | some (r, μ2) => match toD r with
            | none => none
            | some d => if acc.length < 100000 then lcLoop gd t mt me δ xs (acc ++ [d]) μ2 else none
    else none
@[simp] def wipeR (δ : Sl) : List Nat → Sl
  | [] => δ
  | v :: vs => (wipeR δ vs).set v .no
@[simp] def mLc (mi : MI) (t : TGT) (mt : MT) (me : ME) (vs : List Nat) : ME := fun δ μ => match mi δ μ with
  | none => none
  | some (xs, gd, μ1) => match lcLoop gd t mt me (wipeR δ vs) xs [] μ1 with
    | none => none
    | some (ys, μ2) => some (.fr ys, μ2)
@[simp] def mYes : MT := fun _ μ => some (true, μ)
section
variable {X : Cx} {cl : Nat → Addr} {e a b c tg : Expr} {es : List Expr} {m ma mb mc : ME} {pos p : Pos} {K : PySem.W.Frag} {mt : MT} {m1 m2 : MS} {st : Stmt} {sts : List Stmt} {ms : MA}
theorem env_wipe {F : Hp} {α : List Addr} {σ : L2.St} {δ : Sl} (h : EnvOk K cl F α σ δ) : ∀ vs : List Nat, EnvOk K cl F α (wipe σ vs) (wipeR δ vs)
  | [] => h
  | v :: vs => by
    have ih := env_wipe h vs
    unfold wipe wipeR
    refine ⟨by simp [ih.1], fun i d q => ?_, fun i k q => ?_⟩
    · by_cases hj : v = i
      · subst hj
        have hi : v < (wipeR δ vs).length := by
          have := (List.getElem?_eq_some_iff.mp q).1
          simpa using this
        rw [List.getElem?_set_self hi] at q
        cases q
      · rw [List.getElem?_set_ne hj] at q ⊢
        exact ih.2.1 i d q
    · by_cases hj : v = i
      · subst hj
        have hi : v < (wipeR δ vs).length := by
          have := (List.getElem?_eq_some_iff.mp q).1
          simpa using this
        rw [List.getElem?_set_self hi] at q
        cases q
      · rw [List.getElem?_set_ne hj] at q ⊢
        exact ih.2.2 i k q
theorem stt_nil : PTs X [] (tmt X.K cl mYes) := ⟨fun pins s σ H Q I h => pts_nil.run pins s σ H Q I (by
  obtain ⟨F, α, δ, μ, b, μ', C, Ee, hm, k⟩ := h
  cases hm
  exact k F H Evo.refl C)⟩
theorem stt_one (h : ST X cl c mt) : PTs X [c] (tmt X.K cl mt) := pts_one h
/-- the list that is being made: out of the frozen part, no cell -/
theorem Conc.out1 {F H : Hp} {α : List Addr} {μ : Mu} {D0 : Addr} {o u : HO} (C : Conc K cl F α μ H) (h1 : F D0 = none) (h2 : D0 ∉ α) (h3 : H D0 = some u) : Conc K cl F α μ (upd H D0 o) := by
  refine ⟨fun b x h => ?_, C.len, C.nd, fun k b xs q1 q2 => ?_, C.out⟩
  · rw [upd_ne (fun z => by rw [z, h1] at h; cases h)]
    exact C.sub b x h
  · rw [upd_ne (fun z => h2 (by rw [← z]; exact List.mem_of_getElem? q1))]
    exact C.cell k b xs q1 q2
theorem Evo.out1 {F H F' H' : Hp} {α α' : List Addr} {D0 : Addr} {o u : HO} (e : Evo F α H F' α' H') (h1 : H D0 = none) : Evo F α H F' α' (upd H' D0 o) := by
  refine ⟨e.ff, e.ext, fun b x h q => ?_, fun b h => ?_, e.fre, e.fra⟩
  · rw [upd_ne (ne_of_none h h1)]
    exact e.hh b x h q
  · by_cases z : b = D0
    · rw [z]
      exact h1
    · rw [upd_ne z] at h
      exact e.dom b h
theorem lc_imp {mi : MI} {t : TGT} {g : TG} {me : ME} {vs : List Nat} (hg : TgSem K cl g t vs) : ∀ σ H Q, tm K cl (mLc mi t mt me vs) σ H Q → tLc (tmi K cl mi) g (tmt K cl mt) (tm K cl me) vs σ H Q := fun σ H Q ⟨F, α, δ, μ, z, μ', C, Ee, hm, k⟩ => by
  unfold mLc at hm
  split at hm
  · cases hm
  rename_i xs gd μ1 h1
  split at hm
  · cases hm
  rename_i ys μ2 h2
  cases hm
  refine ⟨F, α, δ, μ, xs, gd, μ1, C, Ee, h1, fun J F1 H1 e1 c1 W D0 hD => ?_⟩
  obtain ⟨G, Y, w, hG, hY⟩ := W
  have fD : F1 D0 = none := by
    cases q : F1 D0 with
    | none => rfl
    | some u =>
      rw [c1.sub D0 u q] at hD
      cases hD
  have aD : D0 ∉ α := fun ha => by
    obtain ⟨kk, hk, ek⟩ := List.mem_iff_getElem.mp ha
    have hk2 : kk < μ1.length := by rw [← c1.len]; exact hk
    obtain ⟨us, q⟩ := (c1.cell kk D0 μ1[kk] (by rw [List.getElem?_eq_getElem hk, ek]) (List.getElem?_eq_getElem hk2)).some
    rw [hD] at q
    cases q
  have gdOf : ∀ {i : Nat} {acc : List D} {μ3 : Mu}, lcLoop gd t mt me (wipeR δ vs) (xs.drop i) acc μ3 = some (ys, μ') → gd μ3 = true := by
    intro i acc μ3 h
    cases e : xs.drop i with
    | nil =>
      rw [e] at h
      unfold lcLoop at h
      split at h
      · rename_i z
        exact z
      · cases h
    | cons x r =>
      rw [e] at h
      unfold lcLoop at h
      split at h
      · rename_i z
        exact z
      · cases h
  refine lc_it w (fun i H2 => ∃ F2 μ3 acc us, Evo F1 α H1 F2 α H2 ∧ Conc K cl F2 α μ3 H2 ∧ F2 D0 = none ∧ H2 D0 = some (.lst us) ∧ Reps K cl F2 us acc ∧ lcLoop gd t mt me (wipeR δ vs) (xs.drop i) acc μ3 = some (ys, μ')) ?_ ?_ ?_ ?_
  · obtain ⟨e2, c2, r2⟩ := c1.newL hD .nil
    exact ⟨F1, μ1, [], [], e2, c2, fD, upd_same, .nil, h2⟩
  · rintro i H2 _ ⟨F2, μ3, acc, us, e2, c2, f2, d2, q2, h3⟩
    exact hG F2 α μ3 H2 e2.ff ⟨[], by simp⟩ c2 (gdOf h3)
  · rintro i x H2 H3 hi ⟨F2, μ3, acc, us, e2, c2, f2, d2, q2, h3⟩ y
    have gt := gdOf h3
    rw [List.drop_eq_getElem_cons hi] at h3
    unfold lcLoop at h3
    rw [if_pos gt] at h3
    split at h3
    · cases h3
    rename_i δ1 h4
    obtain ⟨F3, e3, c3, r3⟩ := hY i xs[i] F2 α μ3 H2 x H3 (List.getElem?_eq_getElem hi) e2.ff ⟨[], by simp⟩ c2 gt y
    have keepD : ∀ {F4 H4 : Hp}, Evo F2 α H2 F4 α H4 → F4 D0 = none ∧ H4 D0 = some (.lst us) := fun {F4 H4} e4 => by
      refine ⟨?_, e4.hh D0 _ d2 aD⟩
      cases q : F4 D0 with
      | none => rfl
      | some u =>
        have := e4.fre D0 u f2 q
        rw [d2] at this
        cases this
    refine hg F3 α (wipe σ vs) (wipeR δ vs) δ1 H3 x xs[i] _ c3.sub ((env_wipe ((Ee.step e1).step e2) vs).step e3) r3 h4 fun σ1 en1 hw => ⟨by rw [hw, wipe_eq (wipe_length σ vs) fun j hj => wipe_out hj], ?_⟩
    split at h3
    · cases h3
    · rename_i μ4 h5
      refine ⟨F3, α, δ1, μ3, _, μ4, c3, en1, h5, fun F4 H4 e4 c4 => iteF ?_⟩
      obtain ⟨k1, k2⟩ := keepD (e3.trans e4)
      exact ⟨F4, μ4, acc, us, e2.trans (e3.trans e4), c4, k1, k2, q2.mono (e3.trans e4).ff, h3⟩
    · rename_i μ4 h5
      split at h3
      · cases h3
      rename_i r5 μ5 h6
      split at h3
      · cases h3
      rename_i d h7
      split at h3
      · rename_i hl
        refine ⟨F3, α, δ1, μ3, _, μ4, c3, en1, h5, fun F4 H4 e4 c4 => iteT ⟨F4, α, δ1, μ4, r5, μ5, c4, en1.step e4, h6, fun v F5 H5 e5 c5 r5' => ?_⟩⟩
        obtain ⟨F6, e6, c6, r6⟩ := freeze e5 c5 r5'
        rw [froz_dat h7] at r6
        have eAll := e3.trans (e4.trans e6)
        obtain ⟨k1, k2⟩ := keepD eAll
        have q6 := q2.mono eAll.ff
        refine ⟨us, k2, sz_lt (by rw [q6.length]; exact hl), F6, μ5, acc ++ [d], us ++ [v], (e2.trans eAll).out1 (u := .lst us) hD, c6.out1 k1 aD k2, k1, upd_same, q6.append (.cons r6 .nil), h3⟩
      · cases h3
  · rintro H2 ⟨F2, μ3, acc, us, e2, c2, f2, d2, q2, h3⟩
    rw [List.drop_length] at h3
    unfold lcLoop at h3
    split at h3
    · cases h3
      exact k _ F2 H2 (e1.trans e2) c2 ⟨D0, us, rfl, e1.dom D0 hD, f2, aD, d2, q2⟩
    · cases h3
theorem se_lc {elt iter : Expr} {ifs : List Expr} {scope : Scope} {own : List (Str × Nat)} {mi : MI} {t : TGT} {g : TG} {me : ME} (hN : X.N.Nodup) (hi : SI X cl tg iter mi) (hgs : TgSem X.K cl g t (own.map (·.2)))
    (hg : ∀ (s : Shared) (H : Hp) (C : Addr) (cc : List (Str × Addr)) (fp : List Addr), PG (X.blk s H scope (compEnvC scope cc C X.env) fp) tg g)
    (ht : ∀ (s : Shared) (H : Hp) (C : Addr) (cc : List (Str × Addr)) (fp : List Addr), PTs (X.blk s H scope (compEnvC scope cc C X.env) fp) ifs (tmt X.K cl mt))
    (he : ∀ (s : Shared) (H : Hp) (C : Addr) (cc : List (Str × Addr)) (fp : List Addr), PE (X.blk s H scope (compEnvC scope cc C X.env) fp) elt (tm X.K cl me)) (ok : BlkOk X.N X.env.scope scope own) (hc : X.calm = true := by rfl) (hs : ∀ x, foldedSetIterable iter X.env x = pure x := by intro _; rfl) :
    SE X cl (.ListComp elt [⟨tg, iter, ifs, 0⟩] scope pos) (mLc mi t mt me (own.map (·.2))) := PE.weak (pe_lc hc hN hi ok hg ht he hs) (lc_imp hgs)
/-- y = [..] on one row -/
theorem asg_imp {t1 t2 : TE} {i : Nat} (h : ∀ σ H Q, t1 σ H Q → t2 σ H Q) : ∀ E σ H, tAsg t1 (gName i) E σ H → tAsg t2 (gName i) E σ H := fun E σ H q => h σ H _ q
theorem ss_setLc {i : Nat} {y : Str} {py spos : Pos} {elt iter : Expr} {ifs : List Expr} {scope : Scope} {own : List (Str × Nat)} {mi : MI} {t : TGT} {g : TG} {me : ME} (hN : X.N.Nodup) (hi : SI X cl tg iter mi) (hgs : TgSem X.K cl g t (own.map (·.2)))
    (hg : ∀ (s : Shared) (H : Hp) (C : Addr) (cc : List (Str × Addr)) (fp : List Addr), PG (X.blk s H scope (compEnvC scope cc C X.env) fp) tg g)
    (ht : ∀ (s : Shared) (H : Hp) (C : Addr) (cc : List (Str × Addr)) (fp : List Addr), PTs (X.blk s H scope (compEnvC scope cc C X.env) fp) ifs (tmt X.K cl mt))
    (he : ∀ (s : Shared) (H : Hp) (C : Addr) (cc : List (Str × Addr)) (fp : List Addr), PE (X.blk s H scope (compEnvC scope cc C X.env) fp) elt (tm X.K cl me)) (ok : BlkOk X.N X.env.scope scope own)
    (hsw : swapsWith (.ListComp elt [⟨tg, iter, ifs, 0⟩] scope pos) (some (.Name y py)) spos.line X.env = pure true) (hy : X.N[i]? = some y := by rfl) (hyl : X.env.scope.names.lookup y = some .local := by rfl) (hc : X.calm = true := by rfl) (hs : ∀ x, foldedSetIterable iter X.env x = pure x := by intro _; rfl) :
    SS X cl (.Assign [.Name y py] (.ListComp elt [⟨tg, iter, ifs, 0⟩] scope pos) spos) (mSet i (mLc mi t mt me (own.map (·.2)))) :=
  PS.weak (ps_setLc hc hN hy hyl hsw hi ok hg ht he hs) fun E σ H h => asg_imp (lc_imp hgs) E σ H (set_imp E σ H h)

@[simp] def pick {β : Type} (is : List Nat) (l : List β) : List β := is.filterMap fun i => l[i]?
abbrev SK (X : Cx) (cl : Nat → Addr) (kws : List Keyword) (m : MA) : Prop := PK X kws (tma X.K cl m)
theorem PK.weak {kws : List Keyword} {t t' : TA} (h : PK X kws t) (k : ∀ σ H Q, t' σ H Q → t σ H Q) : PK X kws t' := ⟨fun pos pins s σ H Q I hw => h.run pos pins s σ H Q I (k σ H Q hw)⟩
theorem sk_nil : SK X cl [] mNil := by
  refine PK.weak pk_nil fun σ H Q ⟨F, α, δ, μ, z, μ', C, Ee, hm, k⟩ => ?_
  cases hm
  exact k [] F H Evo.refl C .nil
theorem sk_cons {nm : Option Str} {kpos : Pos} {kws : List Keyword} (ha : SE X cl a m) (hr : SK X cl kws ms) : SK X cl (⟨nm, a, kpos⟩ :: kws) (mCons m ms) := by
  refine PK.weak (pk_cons ha hr) fun σ H Q ⟨F, α, δ, μ, z, μ', C, Ee, hm, k⟩ => ?_
  unfold mCons at hm
  split at hm
  · cases hm
  · cases hm
  rename_i r1 μ1 hnf h1
  replace hnf : ∀ c, r1 ≠ .fc c := fun c z => hnf c z
  split at hm
  · cases hm
  rename_i rs μ2 h2
  cases hm
  refine ⟨F, α, δ, μ, r1, μ1, C, Ee, h1, fun v F1 H1 e1 c1 q1 => ?_⟩
  obtain ⟨F1', e1', c1', q1'⟩ := freeze e1 c1 q1
  refine ⟨F1', α, δ, μ1, rs, μ', c1', Ee.step e1', h2, fun vs F2 H2 e2 c2 q2 => k _ F2 H2 (e1'.trans e2) c2 (.cons ((arg_of hnf q1').step e2) q2)⟩
theorem ArgRs.append {F : Hp} {α : List Addr} : ∀ {vs us : List V} {rs qs : List R}, ArgRs K cl F α vs rs → ArgRs K cl F α us qs → ArgRs K cl F α (vs ++ us) (rs ++ qs)
  | _, _, _, _, .nil, q => q
  | _, _, _, _, .cons r q, s => .cons r (ArgRs.append q s)
theorem ArgRs.pick {F : Hp} {α : List Addr} {vs : List V} {rs : List R} (h : ArgRs K cl F α vs rs) : ∀ is : List Nat, ArgRs K cl F α (pick is vs) (pick is rs)
  | [] => .nil
  | i :: is => by
    have ih := ArgRs.pick h is
    unfold DL.pick at ih ⊢
    rw [List.filterMap_cons, List.filterMap_cons]
    cases e : rs[i]? with
    | none =>
      have e2 : vs[i]? = none := List.getElem?_eq_none (by rw [h.length]; exact List.getElem?_eq_none_iff.mp e)
      rw [e2]
      exact ih
    | some r =>
      obtain ⟨v, e2, q⟩ := h.get e
      rw [e2]
      exact .cons q ih
theorem Vals.append' : ∀ {xs ys : List V} {us ws : List Value}, Vals xs us → Vals ys ws → Vals (xs ++ ys) (us ++ ws) := fun h q => Vals.append h q
theorem vals_pick {vs : List V} {us : List Value} (h : Vals vs us) : ∀ is : List Nat, Vals (pick is vs) (pick is us)
  | [] => .nil
  | i :: is => by
    have ih := vals_pick h is
    unfold DL.pick at ih ⊢
    rw [List.filterMap_cons, List.filterMap_cons]
    cases e : vs[i]? with
    | none =>
      rw [h.none_of e]
      exact ih
    | some r =>
      obtain ⟨v, e2, q⟩ := h.get e
      rw [e2]
      exact .cons q ih
/-- a def that is called by names -/
structure FK (P : Program) (w : World) (K : PySem.W.Frag) (mg : Str → Option Value) (base : Heap) (cl : Nat → Addr) (k : Nat) (x : Str) (n : Nat) (m : MF) (np : Nat) (ks : List Str) (is : List Nat) : Prop where
  ok : ∃ (f : Addr) (fd : FuncData) (ps : List Str), FnOk P w K mg base CX0 k f fd ps (spM K cl n m) ∧ mg x = some (.ref f) ∧ PySem.W.keepIn K (.ref f) = true ∧ KBn K fd ps np ks (fun us ws => pick is (us ++ ws)) (fun us ws => pick is (us ++ ws))
  ar : ∀ rs μ z, m rs μ = some z → rs.length = n
theorem kbn_of {fd : FuncData} {ps : List Str} {np : Nat} {ks : List Str} {is : List Nat} (h : ∀ (s : Shared) (us ws : List Value), K.In s.heap → us.length = np → ws.length = ks.length → BindsTo s fd ⟨us, ks.zip ws⟩ (ps.zip (pick is (us ++ ws)))) : KBn K fd ps np ks (fun us ws => pick is (us ++ ws)) (fun us ws => pick is (us ++ ws)) :=
  ⟨h, fun h1 h2 => vals_pick (Vals.append h1 h2) is⟩
@[simp] def mCallK (f : MF) (np nk : Nat) (is : List Nat) (ms mk : MA) : ME := fun δ μ => match ms δ μ with
  | none => none
  | some (rs, μ1) => match mk δ μ1 with
    | none => none
    | some (zs, μ2) => if rs.length = np ∧ zs.length = nk then f (pick is (rs ++ zs)) μ2 else none
theorem callK_imp {n np nk : Nat} {is : List Nat} {mf : MF} {mk : MA} (ar : ∀ rs μ z, mf rs μ = some z → rs.length = n) : ∀ σ H Q, tm K cl (mCallK mf np nk is ms mk) σ H Q → tCallN np nk (spM K cl n mf) (fun us ws => pick is (us ++ ws)) E0 (tma K cl ms) (tma K cl mk) σ H Q := fun σ H Q ⟨F, α, δ, μ, z, μ', C, Ee, hm, k⟩ => by
  unfold mCallK at hm
  split at hm
  · cases hm
  rename_i rs μ1 h1
  split at hm
  · cases hm
  rename_i zs μ2 h2
  split at hm
  · rename_i hl
    refine ⟨F, α, δ, μ, rs, μ1, C, Ee, h1, fun vs F1 H1 e1 c1 q1 => ⟨F1, α, δ, μ1, zs, μ2, c1, Ee.step e1, h2, fun us F2 H2 e2 c2 q2 => ⟨by rw [q1.length]; exact hl.1, by rw [q2.length]; exact hl.2, ?_⟩⟩⟩
    have q1' : ArgRs K cl F2 α vs rs := by
      clear h1 h2 hl hm
      induction q1 with
      | nil => exact .nil
      | cons r q ih => exact .cons (r.step e2) ih
    have q3 := (q1'.append q2).pick is
    exact ⟨F2, α, μ2, _, z, μ', by rw [q3.length, ar _ _ _ hm], c2, q3, hm, fun v F3 H3 e3 c3 r3 => k v F3 H3 (e1.trans (e2.trans e3)) c3 (r3.back fun p hp => e1.dom p (e2.dom p hp))⟩
  · cases hm
variable {k j n np : Nat} {x : Str} {mf : MF} {mk : MA} {ks : List Str} {is : List Nat} {kws : List Keyword}
theorem se_callK {nk : Nat} (S : FK X.prog X.w X.K X.mg X.base cl k x n mf np ks is) (hr : Room j X.A) (hk : k ≤ j) (ha : SA X cl (e :: es) ms) (hkw : SK X cl kws mk) (hnk : ks.length = nk := by rfl) (hg : Gl X x := by rfl) (hall : (backToKw pos (keywordEach kws X.env)).all (·.1.isSome) = true := by rfl) (hks : (backToKw pos (keywordEach kws X.env)).filterMap (·.1) = ks := by rfl)
    (hdb : (x == ("__debug__" : Str)) = false := by decide) (he : starEach (e :: es) X.env = (false, eval e X.env) :: starEach es X.env := by rfl) (hpl : ((backTo pos (starEach (e :: es) X.env)).any (·.1) || (backToKw pos (keywordEach kws X.env)).any (·.1.isNone)) = false := by rfl) :
    SE X cl (.Call (.Name x p) (e :: es) kws pos) (mCallK mf np nk is ms mk) := by
  subst hnk
  obtain ⟨f, fd, ps, F, hm, hkp, hb⟩ := S.ok
  exact PE.weak (pe_callN F (hr.mono hk) hg hm hkp hb pass0 ha hkw hall hks hdb he hpl) (callK_imp S.ar)
theorem pe_callN0 {CX : CXT} {f : Addr} {fd : FuncData} {ps : List Str} {sp : Sp} {E : XK} {g : List Value → List Value → List Value} {gV : List V → List V → List V} {tk : TA} (F : FnOk X.prog X.w X.K X.mg X.base CX k f fd ps sp) (hr : Room k X.A) (hg : Gl X x) (hm : X.mg x = some (.ref f)) (hk : PySem.W.keepIn X.K (.ref f) = true) (hb : KBn X.K fd ps 0 ks g gV) (hx : Passes CX X E)
    (hkw : PK X kws tk) (hall : (backToKw pos (keywordEach kws X.env)).all (·.1.isSome) = true := by rfl) (hks : (backToKw pos (keywordEach kws X.env)).filterMap (·.1) = ks := by rfl) (hdb : (x == ("__debug__" : Str)) = false := by decide)
    (hpl : ((backTo pos (starEach [] X.env)).any (·.1) || (backToKw pos (keywordEach kws X.env)).any (·.1.isNone)) = false := by rfl) :
    PE X (.Call (.Name x p) [] kws pos) (tCallN 0 ks.length sp gV E tNil tk) := by
  refine ⟨fun pins s σ H Q I h => ?_⟩
  refine wpAny_Call_Name_kw (ld_glob I hg hm ?_ hdb)
  refine PySem.W.callWith_KW0 (h₀ := X.base) I.ok.mod.kin hk hall ?_ hpl
  refine thn (hkw.run pos pins s σ H _ I h) fun ws s2 ⟨zs, H2, I2, rz, l1, l2, q2⟩ => ⟨I2.kIn, ?_⟩
  rw [hks]
  exact run_fnN (us := []) (vs := []) F hr hb hx I2 .nil rz l1 l2 q2
theorem se_callK0 {nk : Nat} (S : FK X.prog X.w X.K X.mg X.base cl k x n mf 0 ks is) (hr : Room j X.A) (hk : k ≤ j) (hkw : SK X cl kws mk) (hnk : ks.length = nk := by rfl) (hg : Gl X x := by rfl) (hall : (backToKw pos (keywordEach kws X.env)).all (·.1.isSome) = true := by rfl) (hks : (backToKw pos (keywordEach kws X.env)).filterMap (·.1) = ks := by rfl)
    (hdb : (x == ("__debug__" : Str)) = false := by decide) (hpl : ((backTo pos (starEach [] X.env)).any (·.1) || (backToKw pos (keywordEach kws X.env)).any (·.1.isNone)) = false := by rfl) :
    SE X cl (.Call (.Name x p) [] kws pos) (mCallK mf 0 nk is mNil mk) := by
  subst hnk
  obtain ⟨f, fd, ps, F, hm, hkp, hb⟩ := S.ok
  refine PE.weak (pe_callN0 F (hr.mono hk) hg hm hkp hb pass0 hkw hall hks hdb hpl) fun σ H Q h => ?_
  obtain ⟨F, α, δ, μ, rs, μ1, C, Ee, h1, h2⟩ := callK_imp S.ar σ H Q h
  cases h1
  exact h2 [] F H Evo.refl C .nil
end
end DL
set_option Elab.async false
set_option linter.all false
set_option maxRecDepth 100000
set_option maxHeartbeats 1000000
namespace DL
open PySem PySem.Spec PyProof.Rows L2
section
variable {X : Cx} {cl : Nat → Addr} {e a b c tg : Expr} {es : List Expr} {m ma mb mc : ME} {pos p : Pos} {K : PySem.W.Frag}
/-- over a list or a tuple -/
@[simp] def mIt (m : ME) : MI := fun δ μ => match mItL m δ μ with
  | some z => some z
  | none => mItT m δ μ
theorem si_seq (h : SE X cl e m) : SI X cl tg e (mIt m) := by
  refine ⟨fun pins s σ H Q I hw => ?_⟩
  obtain ⟨F, α, δ, μ, xs, gd, μ', C, Ee, hm, k⟩ := hw
  unfold mIt at hm
  split at hm
  · rename_i z h1
    cases hm
    exact (si_list h).run pins s σ H Q I ⟨F, α, δ, μ, xs, gd, μ', C, Ee, h1, k⟩
  · exact (si_tup h).run pins s σ H Q I ⟨F, α, δ, μ, xs, gd, μ', C, Ee, hm, k⟩
end
theorem def_zero {P : Program} {w : World} {K : PySem.W.Frag} {mg : Str → Option Value} {base : Heap} {cl : Nat → Addr} {k n : Nat} {f : Addr} {fd : FuncData} {ps : List Str} : FnOk P w K mg base CX0 k f fd ps (spM K cl n (fun _ _ => none)) :=
  have no : ∀ vs H Q E, spM K cl n (fun _ _ => none) vs H Q E → False := fun vs H Q E h => by
    obtain ⟨_, _, _, _, _, _, _, _, _, h, _⟩ := h
    cases h
  ⟨fun vs H Q E h => (no vs H Q E h).elim, fun A outer s H args us vs Q E _ _ _ _ h => (no vs H Q E h).elim⟩
def sub1 : Stmt → List Stmt
  | .If _ b _ _ => b
  | .For _ _ b _ _ => b
  | .While _ b _ _ => b
  | _ => []
def sub2 : Stmt → List Stmt
  | .If _ _ b _ => b
  | _ => []
/-- the built-ins are as they were -/
structure Bt (mg : Str → Option Value) : Prop where
  len : mg "len" = none
  abs : mg "abs" = none
  int : mg "int" = none
  min : mg "min" = none
  max : mg "max" = none
  list : mg "list" = none
  tuple : mg "tuple" = none
  bool : mg "bool" = none
  str : mg "str" = none
  range : mg "range" = none
  zip : mg "zip" = none
  enumerate : mg "enumerate" = none
  all : mg "all" = none
  any : mg "any" = none
  isinstance : mg "isinstance" = none
theorem boot_bool' : bootBuiltins "bool" = some (.type "bool") := by decide +kernel
theorem boot_int' : bootBuiltins "int" = some (.type "int") := by decide +kernel
theorem boot_str' : bootBuiltins "str" = some (.type "str") := by decide +kernel
theorem boot_list' : bootBuiltins "list" = some (.type "list") := by decide +kernel
theorem boot_tuple' : bootBuiltins "tuple" = some (.type "tuple") := by decide +kernel
/-- the script is handed in, True is wanted -/
def spLaw (K : PySem.W.Frag) : Sp := fun vs H Q _ => ∃ (a : Addr) (ns : List Int), vs = [.ref a] ∧ SqL K H a (ns.map V.int) ∧ ns.length ≤ 63 ∧ ∀ H', Q (.bl true) H'
theorem law_end {P : Program} {w : World} {K : PySem.W.Frag} {mg : Str → Option Value} {base : Heap} {cl : Nat → Addr} {k : Nat} {f : Addr} {fd : FuncData} {ps : List Str} {m : MF} (F : FnOk P w K mg base CX0 k f fd ps (spM K cl 1 m))
    (h : ∀ ns : List Int, ns.length ≤ 63 → m [.dat (.scr ns)] [] = some (.dat (.bl true), [])) : FnOk P w K mg base CX0 k f fd ps (spLaw K) := by
  refine F.imp fun vs H Q E q => ?_
  obtain ⟨a, ns, rfl, hS, hl, q⟩ := q
  refine ⟨H, [], [], [.dat (.scr ns)], _, _, rfl, ⟨Same.refl H, rfl, List.nodup_nil, fun k a xs h => by simp at h, fun a h => by simp at h⟩, .cons (.scr hS) .nil, h ns hl, fun v F' H' e c r => ?_⟩
  rw [rep_bl r]
  exact q H'
theorem walk {l : PySem.W.OpenLaw} {q : Program} {loose : List Str} {XP : (Str → Option Value) → Heap → Prop} {YP : World → Heap → Prop} {d : DefRec} {K : Params → PySem.W.Frag} {k : Nat} (hk : k ≤ 200) (hn : l.most = some 63) (hdf : d.params.defaults = [])
    (hY : ∀ (w : World) (h : Heap), YP w h → (K w.params).In h)
    (F : ∀ (w : World) (mg : Str → Option Value) (fa : Addr) (h : Heap), (K w.params).In h → h.Ns mainGlobals mg → mg d.name = some (.ref fa) →
      ∃ fd : FuncData, (∀ (s : Shared) (u : Value), BindsTo s fd ⟨[u], []⟩ [("_law_script", u)]) ∧ ∀ base : Heap, (K w.params).In base → base.Ns mainGlobals mg → FnOk l.prog w (K w.params) mg base CX0 k fa fd ["_law_script"] (spLaw (K w.params))) :
    PySem.W.WalkO q loose XP YP l.row.toRowW d [] (fun f vs => PySem.call f vs) :=
  L2.walk_of (n := 63) (k := k) (x := "_law_script") (CX := fun _ => CX0) (sp := fun w => spLaw (K w.params)) hn (by decide) hdf (Room.mono (k := 200) ⟨rfl, by decide, by decide⟩ hk) hY F (fun _ _ a ns hl _ hS => ⟨a, ns, rfl, hS, hl, fun _ => rfl⟩) fun _ _ _ _ _ z => z
end DL
set_option Elab.async false
set_option linter.all false
set_option maxRecDepth 100000
set_option maxHeartbeats 1000000
namespace DL
open PySem PySem.Spec PyProof.Rows L2

@[simp] def cellsIn : List R → List Nat
  | [] => []
  | .cel k :: rs => k :: cellsIn rs
  | _ :: rs => cellsIn rs
@[simp] def plainR : R → Bool
  | .dat _ => true
  | .fr _ => true
  | .fc c => c.low 0
  | _ => false
@[simp] def reCel : List R → List R
  | [] => []
  | .cel _ :: rs => .cel 0 :: reCel rs
  | r :: rs => r :: reCel rs
@[simp] def callX (f : MF) : MF := fun rs μ => match cellsIn rs with
  | [] => match f rs [] with
    | some (r, []) => if plainR r = true then some (r, μ) else none
    | _ => none
  | [k] => match μ[k]? with
    | some xs => if xs.low 0 = true then match f (reCel rs) [xs] with
      | some (r, [ys]) => if plainR r = true ∧ ys.low 0 = true then some (r, μ.set k ys) else none
      | _ => none
      else none
    | none => none
  | _ => none
section
variable {K : PySem.W.Frag} {cl : Nat → Addr}
theorem args_none {F : Hp} {α β : List Addr} : ∀ {vs : List V} {rs : List R}, ArgRs K cl F α vs rs → cellsIn rs = [] → ArgRs K cl F β vs rs
  | _, _, .nil, _ => .nil
  | _, _, .cons (r := r) h q, e => by
    cases r with
    | dat d => exact .cons h (args_none q e)
    | cel k => cases e
    | no => exact h.elim
    | fr xs => exact h.elim
    | fc c => exact h.elim
theorem args_one {F : Hp} {α : List Addr} {k : Nat} {a : Addr} (ha : α[k]? = some a) : ∀ {vs : List V} {rs : List R}, ArgRs K cl F α vs rs → (∀ j, j ∈ cellsIn rs → j = k) → ArgRs K cl F [a] vs (reCel rs)
  | _, _, .nil, _ => .nil
  | _, _, .cons (r := r) h q, e => by
    cases r with
    | dat d => exact .cons h (args_one ha q e)
    | cel j =>
      have ej := e j List.mem_cons_self
      subst ej
      obtain ⟨b, h1, h2⟩ := h
      rw [ha] at h1
      cases h1
      exact .cons ⟨a, rfl, h2⟩ (args_one ha q fun i hi => e i (List.mem_cons_of_mem _ hi))
    | no => exact h.elim
    | fr xs => exact h.elim
    | fc c => exact h.elim
theorem cell_some {F H : Hp} {α : List Addr} {μ : Mu} (C : Conc K cl F α μ H) {a : Addr} (h : a ∈ α) : ∃ u, H a = some u := by
  obtain ⟨k, hk, ek⟩ := List.mem_iff_getElem.mp h
  have hk2 : k < μ.length := by rw [← C.len]; exact hk
  exact (C.cell k a μ[k] (by rw [List.getElem?_eq_getElem hk, ek]) (List.getElem?_eq_getElem hk2)).some
theorem CellOk.low0 {F : Hp} {α : List Addr} {o : Option HO} {c : Cel} (h : CellOk K cl F α o c) (q : c.low 0 = true) (β : List Addr) : CellOk K cl F β o c := by
  have h1 : CellOk K cl F ([] ++ α) o c := h
  exact (h1.cut q).mono (Same.refl F) ⟨β, rfl⟩
theorem RepR.plain {F H H0 : Hp} {α β : List Addr} {v : V} {r : R} (h : RepR K cl H0 F β H v r) (hp : plainR r = true) (nw : ∀ a, H0 a = none → a ∉ α) : RepR K cl H0 F α H v r := by
  cases r with
  | dat d => exact h
  | fr xs =>
    obtain ⟨a, us, g1, g2, g3, g4, g5, g6⟩ := h
    exact ⟨a, us, g1, g2, g3, nw a g2, g5, g6⟩
  | fc c =>
    obtain ⟨a, g1, g2, g3, g4, g5⟩ := h
    exact ⟨a, g1, g2, g3, nw a g2, g5.low0 hp α⟩
  | no => cases hp
  | cel j => cases hp
theorem out_stays {F H F' H' : Hp} {α β : List Addr} {μ : Mu} (C : Conc K cl F α μ H) (e : Evo F β H F' β H') {b : Addr} (hb : b ∈ α) : F' b = none := by
  cases q : F' b with
  | none => rfl
  | some o =>
    obtain ⟨vs, h⟩ := cell_some C hb
    have := e.fre b o (C.out b hb) q
    rw [h] at this
    cases this
theorem callX_sp {n : Nat} {f : MF} {vs : List V} {H : Hp} {Q : VK} {E : XK} (h : spM K cl n (callX f) vs H Q E) : spM K cl n f vs H Q E := by
  obtain ⟨F, α, μ, rs, r, μ', hl, C, ha, hm, k⟩ := h
  unfold callX at hm
  split at hm
  · rename_i e0
    split at hm
    · rename_i r1 h1
      split at hm
      · rename_i hp
        cases hm
        refine ⟨F, [], [], rs, r, [], hl, ⟨C.sub, rfl, List.nodup_nil, fun _ _ _ h => by simp at h, fun _ h => by simp at h⟩, args_none ha e0, h1, fun v F' H' e c q => ?_⟩
        refine k v F' H' ⟨e.ff, ⟨[], by simp⟩, fun b o hb _ => e.hh b o hb (by simp), e.dom, e.fre, fun b hb z => absurd hb z⟩ ⟨c.sub, C.len, C.nd, fun j b xs q1 q2 => ?_, fun b hb => out_stays C e hb⟩ ?_
        · have g := C.cell j b xs q1 q2
          obtain ⟨u, g1⟩ := g.some
          rw [e.hh b _ g1 (by simp), ← g1]
          exact g.monoF e.ff
        · exact q.plain hp fun a ha z => by
            obtain ⟨ws, g7⟩ := cell_some C z
            rw [ha] at g7
            cases g7
      · cases hm
    · cases hm
  · rename_i j e0
    split at hm
    · rename_i xs e1
      split at hm
      rotate_left
      · cases hm
      rename_i hlow
      split at hm
      · rename_i r1 ys h1
        split at hm
        · rename_i hp
          obtain ⟨hp, hlow2⟩ := hp
          cases hm
          have hj : j < α.length := by rw [C.len]; exact (List.getElem?_eq_some_iff.mp e1).1
          have ja : α[j]? = some α[j] := List.getElem?_eq_getElem hj
          have jin : α[j] ∈ α := List.getElem_mem hj
          refine ⟨F, [α[j]], [xs], reCel rs, r, [ys], hl, ⟨C.sub, rfl, by simp, fun i b zs q1 q2 => ?_, fun b hb => ?_⟩, args_one ja ha (fun i hi => by rw [e0] at hi; simpa using hi), h1, fun v F' H' e c q => ?_⟩
          · cases i with
            | zero =>
              simp at q1 q2
              subst q1 q2
              exact (C.cell j _ xs ja e1).low0 hlow _
            | succ i => simp at q1
          · rw [List.mem_singleton.mp hb]
            exact C.out _ jin
          · have new : ∀ b, H b = none → b ∉ α := fun b hb z => by
              obtain ⟨ws, g7⟩ := cell_some C z
              rw [hb] at g7
              cases g7
            refine k v F' H' ⟨e.ff, ⟨[], by simp⟩, fun b o hb nb => e.hh b o hb (fun z => nb (by rw [List.mem_singleton.mp z]; exact jin)), e.dom, e.fre, fun b hb z => absurd hb z⟩ ⟨c.sub, by simp [C.len], C.nd, fun i b zs q1 q2 => ?_, fun b hb => out_stays C e hb⟩ ?_
            · by_cases hij : j = i
              · subst hij
                rw [ja] at q1
                cases q1
                rw [List.getElem?_set_self (by rw [← C.len]; exact hj)] at q2
                cases q2
                exact (c.cell 0 _ _ rfl rfl).low0 hlow2 α
              · rw [List.getElem?_set_ne hij] at q2
                have g := C.cell i b zs q1 q2
                obtain ⟨u, g1⟩ := g.some
                rw [e.hh b _ g1 (fun z => hij ?_), ← g1]
                · exact g.monoF e.ff
                · rw [List.mem_singleton.mp z] at q1
                  exact nd_ix C.nd ja q1
            · exact q.plain hp new
        · cases hm
      · cases hm
    · cases hm
  · cases hm
theorem reCel_length : ∀ rs : List R, (reCel rs).length = rs.length
  | [] => rfl
  | .cel _ :: rs => congrArg (· + 1) (reCel_length rs)
  | .dat _ :: rs => congrArg (· + 1) (reCel_length rs)
  | .no :: rs => congrArg (· + 1) (reCel_length rs)
  | .fr _ :: rs => congrArg (· + 1) (reCel_length rs)
  | .fc _ :: rs => congrArg (· + 1) (reCel_length rs)
theorem callX_ar {n : Nat} {f : MF} (ar : ∀ rs μ z, f rs μ = some z → rs.length = n) : ∀ rs μ z, callX f rs μ = some z → rs.length = n := fun rs μ z h => by
  unfold callX at h
  split at h
  · split at h
    · rename_i r1 h1
      exact ar _ _ _ h1
    · cases h
  · split at h
    · split at h
      · split at h
        · rename_i r1 ys h1
          rw [← reCel_length]
          exact ar _ _ _ h1
        · cases h
      · cases h
    · cases h
  · cases h
theorem FS.x {P : Program} {w : World} {mg : Str → Option Value} {base : Heap} {k : Nat} {x : Str} {n : Nat} {m : MF} (S : FS P w K mg base cl k x n m) : FS P w K mg base cl k x n (callX m) := by
  obtain ⟨⟨f, fd, ps, F, h⟩, ar⟩ := S
  exact ⟨⟨f, fd, ps, F.imp fun vs H Q E h => callX_sp h, h⟩, callX_ar ar⟩
theorem FK.x {P : Program} {w : World} {mg : Str → Option Value} {base : Heap} {k : Nat} {x : Str} {n : Nat} {m : MF} {np : Nat} {ks : List Str} {is : List Nat} (S : FK P w K mg base cl k x n m np ks is) : FK P w K mg base cl k x n (callX m) np ks is := by
  obtain ⟨⟨f, fd, ps, F, h⟩, ar⟩ := S
  exact ⟨⟨f, fd, ps, F.imp fun vs H Q E h => callX_sp h, h⟩, callX_ar ar⟩
/-- f(e), e a new list that f may change -/
@[simp] def mCall1 (f : MF) (m : ME) : ME := fun δ μ => match m δ μ with
  | some (.fr xs, μ1) => match f [.cel 0] [.l xs] with
    | some (r, [_]) => if plainR r = true then some (r, μ1) else none
    | _ => none
  | _ => none
variable {X : Cx} {e : Expr} {es : List Expr} {pos p : Pos} {k j n : Nat} {x : Str} {mf : MF} {ms : MA} {m : ME}
theorem se_call1 (S : FS X.prog X.w X.K X.mg X.base cl k x 1 mf) (hr : Room j X.A) (hk : k ≤ j) (ha : SE X cl e m) (hg : Gl X x := by rfl) (hdb : (x == ("__debug__" : Str)) = false := by decide) (he : starEach (e :: []) X.env = (false, eval e X.env) :: starEach [] X.env := by rfl) (hpl : (backTo pos (starEach [] X.env)).any (·.1) = false := by rfl) :
    SE X cl (.Call (.Name x p) [e] [] pos) (mCall1 mf m) := by
  obtain ⟨f, fd, ps, F, hm, hkp, hb, _⟩ := S.ok
  refine PE.weak (pe_call F (hr.mono hk) hg hm hkp hb .nil pass0 (pa_cons ha pa_nil he) hdb he hpl) fun σ H Q ⟨F, α, δ, μ, z, μ', C, Ee, hm, k⟩ => ?_
  unfold mCall1 at hm
  split at hm
  · rename_i xs μ1 h1
    split at hm
    · rename_i r ys h2
      split at hm
      · rename_i hp
        cases hm
        refine ⟨F, α, δ, μ, _, μ', C, Ee, h1, fun v F1 H1 e1 c1 q1 => ?_⟩
        obtain ⟨a, us, g1, g2, g3, g4, g5, g6⟩ := q1
        subst g1
        refine ⟨F1, [a], [.l xs], [.cel 0], z, [ys], rfl, ⟨c1.sub, rfl, by simp, fun i b zs q1 q2 => ?_, fun b hb => by rw [List.mem_singleton.mp hb]; exact g3⟩, .cons ⟨a, rfl, rfl⟩ .nil, h2, fun v F' H' e c q => ?_⟩
        · cases i with
          | zero =>
            simp at q1 q2
            subst q1 q2
            exact ⟨us, g5, g6⟩
          | succ i => simp at q1
        · have e' : Evo F1 α H1 F' α H' → True := fun _ => trivial
          have ev : Evo F α H F' α H' := by
            refine ⟨e1.ff.trans e.ff, ⟨[], by simp⟩, fun b o hb nb => e.hh b o (e1.hh b o hb nb) (fun z => ?_), fun b hb => e1.dom b (e.dom b hb), fun b o hb hq => ?_, fun b hb z => absurd hb z⟩
            · rw [List.mem_singleton.mp z, g2] at hb
              cases hb
            · cases e3 : F1 b with
              | none => exact e1.dom b (e.fre b o e3 hq)
              | some u => exact e1.fre b u hb e3
          refine k v F' H' ev ⟨c.sub, c1.len, c1.nd, fun i b zs q1 q2 => ?_, fun b hb => out_stays c1 e hb⟩ ?_
          · have l := c1.cell i b zs q1 q2
            obtain ⟨u, l1⟩ := l.some
            rw [e.hh b _ l1 (fun z => g4 ?_), ← l1]
            · exact l.monoF e.ff
            · rw [← List.mem_singleton.mp z]
              exact List.mem_of_getElem? q1
          · exact (q.plain hp fun a ha z => by
              obtain ⟨ws, l7⟩ := cell_some c1 z
              rw [ha] at l7
              cases l7).back e1.dom
      · cases hm
    · cases hm
  · cases hm
end
end DL
set_option Elab.async false
set_option linter.all false
set_option maxRecDepth 100000
set_option maxHeartbeats 1000000

namespace DL
open PySem PySem.Spec PyProof.Rows L2
/-- the class number c has the slots fs -/
structure ClS (K : PySem.W.Frag) (cl : Nat → Addr) (c : Nat) (fs : List Str) : Prop where
  s : SlX.SCls K (cl c)
  sl : ∀ (i : Nat) (f : Str), fs[i]? = some f → ∃ p, SlX.Slot1 K (cl c) f p i
/-- the def at f -/
structure FA (P : Program) (w : World) (K : PySem.W.Frag) (mg : Str → Option Value) (base : Heap) (cl : Nat → Addr) (k : Nat) (f : Addr) (n : Nat) (m : MF) : Prop where
  ok : FnR P w K mg base CX0 k f (spM K cl n m)
  kp : PySem.W.keepIn K (.ref f) = true
  ar : ∀ rs μ z, m rs μ = some z → rs.length = n
section
variable {X : Cx} {cl : Nat → Addr} {e o a b c tg : Expr} {es : List Expr} {m mo ma mb mc : ME} {ms : MA} {pos p apos : Pos} {K : PySem.W.Frag} {f g : Addr} {n k j : Nat} {mf : MF} {P : Program} {w : World} {mg : Str → Option Value} {base : Heap}
theorem FA.x (S : FA P w K mg base cl k f n mf) : FA P w K mg base cl k f n (callX mf) := ⟨S.ok.imp fun vs H Q E h => callX_sp h, S.kp, callX_ar S.ar⟩
theorem FA.raw (S : FA P w K mg base cl k f n mf) : FnR P w K mg base CX0 k f (spM K cl n mf) := S.ok
theorem FA.of {fd : FuncData} {ps : List Str} (F : FnOk P w K mg base CX0 k f fd ps (spM K cl n mf)) (hb : Binds K fd ps []) (kp : PySem.W.keepIn K (.ref f) = true) (ar : ∀ rs μ z, mf rs μ = some z → rs.length = n) : FA P w K mg base cl k f n mf :=
  ⟨(FnOk.raw F hb .nil).imp fun vs H Q E h => by rw [List.append_nil]; exact h, kp, ar⟩
/-- the last parameters have their defaults -/
@[simp] def mDfl (f : MF) (ds : List D) : MF := fun rs μ => f (rs ++ ds.map R.dat) μ
theorem reps_args {F : Hp} {α : List Addr} : ∀ {vs : List V} {ds : List D}, Reps K cl F vs ds → ArgRs K cl F α vs (ds.map R.dat)
  | _, _, .nil => .nil
  | _, _, .cons r q => .cons r (reps_args q)
theorem FA.dfl {fd : FuncData} {ps : List Str} {us : List Value} {dvs : List V} {ds : List D} {n' : Nat} (F : FnOk P w K mg base CX0 k f fd ps (spM K cl n mf)) (hb : Binds K fd ps us) (hd : Vals dvs us) (hr : ∀ F, Reps K cl F dvs ds) (hn : n' + ds.length = n) (kp : PySem.W.keepIn K (.ref f) = true) (ar : ∀ rs μ z, mf rs μ = some z → rs.length = n) : FA P w K mg base cl k f n' (mDfl mf ds) := by
  refine ⟨(FnOk.raw F hb hd).imp fun vs H Q E ⟨F, α, μ, rs, r, μ', hl, C, ha, hm, k⟩ => ?_, kp, fun rs μ z h => ?_⟩
  · exact ⟨F, α, μ, rs ++ ds.map R.dat, r, μ', by rw [List.length_append, hl, (hr F).length, hn], C, ha.append (reps_args (hr F)), hm, k⟩
  · have := ar _ _ _ h
    rw [List.length_append, List.length_map] at this
    omega

@[simp] def mAttr (c i : Nat) (m : ME) : ME := fun δ μ => match m δ μ with
  | some (.dat (.ins c' xs), μ1) => if c' = c then match xs[i]? with
      | some d => some (.dat d, μ1)
      | none => none
    else none
  | _ => none
theorem se_attr {c i : Nat} {x : Str} {fs : List Str} (S : ClS X.K cl c fs) (h : SE X cl e m) (hi : fs[i]? = some x := by rfl) (hb : attributeBase e x X.env (eval e X.env) = eval e X.env := by rfl) : SE X cl (.Attribute e x pos) (mAttr c i m) := by
  refine PE.weak (SlX.pe_sl h hb) fun σ H Q ⟨F, α, δ, μ, z, μ', C, Ee, hm, k⟩ => ?_
  unfold mAttr at hm
  split at hm
  · rename_i c' xs μ1 h1
    split at hm
    · rename_i hc
      split at hm
      · rename_i d hd
        cases hm
        refine ⟨F, α, δ, μ, _, _, C, Ee, h1, fun v F1 H1 e1 c1 q1 => ?_⟩
        subst hc
        cases q1 with
        | ins hs hq hr =>
          obtain ⟨v', hv, rv⟩ := hr.get hd
          obtain ⟨p, hp⟩ := S.sl i x hi
          exact ⟨_, _, _, p, _, i, v', rfl, Same.slt c1.sub hs, S.s, hp, by rw [List.getElem?_map, hv]; rfl, k v' F1 H1 e1 c1 rv⟩
      · cases hm
    · cases hm
  · cases hm

@[simp] def mMeth (c : Nat) (f : MF) (mo : ME) (ms : MA) : ME := fun δ μ => match mo δ μ with
  | some (.dat (.ins c' xs), μ1) => if c' = c then match ms δ μ1 with
      | some (rs, μ2) => f (.dat (.ins c' xs) :: rs) μ2
      | none => none
    else none
  | _ => none
structure FM (P : Program) (w : World) (K : PySem.W.Frag) (mg : Str → Option Value) (base : Heap) (cl : Nat → Addr) (k c : Nat) (x : Str) (n : Nat) (m : MF) : Prop where
  s : SlX.SCls K (cl c)
  ok : ∃ f, Meth K (cl c) x f ∧ FA P w K mg base cl k f n m
theorem FM.x {c : Nat} {x : Str} (S : FM P w K mg base cl k c x n mf) : FM P w K mg base cl k c x n (callX mf) := by
  obtain ⟨s, f, h1, h2⟩ := S
  exact ⟨s, f, h1, h2.x⟩
theorem meth_imp {c : Nat} (ar : ∀ rs μ z, mf rs μ = some z → rs.length = n) : ∀ σ H Q, tm K cl (mMeth c mf mo ms) σ H Q → SlX.tMethSl (cl c) (spM K cl n mf) E0 (tm K cl mo) (tma K cl ms) σ H Q := fun σ H Q ⟨F, α, δ, μ, z, μ', C, Ee, hm, k⟩ => by
  unfold mMeth at hm
  split at hm
  · rename_i c' xs μ1 h1
    split at hm
    · rename_i hc
      split at hm
      · rename_i rs μ2 h2
        subst hc
        refine ⟨F, α, δ, μ, _, _, C, Ee, h1, fun v F1 H1 e1 c1 q1 => ?_⟩
        cases q1 with
        | ins hs hq hr =>
          refine ⟨_, _, _, rfl, Same.slt c1.sub hs, F1, α, δ, μ1, rs, μ2, c1, Ee.step e1, h2, fun vs F2 H2 e2 c2 q2 => ?_⟩
          have r0 : Rep K cl F2 _ (.ins c' xs) := Rep.mono e2.ff (.ins hs hq hr)
          have hl := q2.length
          refine ⟨F2, α, μ2, .dat (.ins c' xs) :: rs, z, μ', ?_, c2, .cons r0 q2, hm, fun v F3 H3 e3 c3 r3 => k v F3 H3 ((e1.trans e2).trans e3) c3 (r3.back (e1.trans e2).dom)⟩
          rw [List.length_cons, hl]
          exact ar _ _ _ hm
      · cases hm
    · cases hm
  · cases hm
theorem se_meth {c : Nat} {x : Str} {pl : Sem Bool} (S : FM X.prog X.w X.K X.mg X.base cl k c x n mf) (hr : Room j X.A) (hk : k ≤ j) (ho : SE X cl o mo) (ha : SA X cl (e :: es) ms)
    (hst : starEach (e :: es) X.env = (false, eval e X.env) :: starEach es X.env := by rfl) (hpl : (backTo pos (starEach es X.env)).any (·.1) = false := by rfl)
    (ht : eval (.Call (.Attribute o x apos) (e :: es) [] pos) X.env = (do
      let ov ← eval o X.env
      standAt apos.atName
      let (f, first) ← holding [ov] (getMethod ov x pl)
      callWith pos f first (backTo pos (starEach (e :: es) X.env)) (backToKw pos (keywordEach [] X.env))) := by rfl) :
    SE X cl (.Call (.Attribute o x apos) (e :: es) [] pos) (mMeth c mf mo ms) := by
  obtain ⟨s, f, h1, h2⟩ := S
  exact PE.weak (SlX.pe_methSl (pl := pl) ho s h1 h2.raw (hr.mono hk) pass0 ha hst hpl ht) (meth_imp h2.ar)
theorem se_meth0 {c : Nat} {x : Str} {pl : Sem Bool} (S : FM X.prog X.w X.K X.mg X.base cl k c x n mf) (hr : Room j X.A) (hk : k ≤ j) (ho : SE X cl o mo)
    (ht : eval (.Call (.Attribute o x apos) [] [] pos) X.env = (do
      let ov ← eval o X.env
      standAt apos.atName
      let (f, first) ← holding [ov] (getMethod ov x pl)
      callWith pos f first (backTo pos (starEach [] X.env)) (backToKw pos (keywordEach [] X.env))) := by rfl) :
    SE X cl (.Call (.Attribute o x apos) [] [] pos) (mMeth c mf mo mNil) := by
  obtain ⟨s, f, h1, h2⟩ := S
  refine PE.weak (SlX.pe_methSl0 (pl := pl) ho s h1 h2.raw (hr.mono hk) pass0 ht) fun σ H Q h => ?_
  obtain ⟨F, α, δ, μ, z, μ', C, Ee, h1, h2⟩ := meth_imp h2.ar σ H Q h
  refine ⟨F, α, δ, μ, z, μ', C, Ee, h1, fun v F1 H1 e1 c1 q1 => ?_⟩
  obtain ⟨a, dx, vs, h3, h4, F2, α2, δ2, μ2, rs, μ3, C2, E2, h5, h6⟩ := h2 v F1 H1 e1 c1 q1
  cases h5
  exact ⟨a, dx, vs, h3, h4, h6 [] F2 H1 Evo.refl C2 .nil⟩
end
end DL
set_option Elab.async false
set_option linter.all false
set_option maxRecDepth 100000
set_option maxHeartbeats 1000000
namespace DL
open PySem PySem.Spec PyProof.Rows L2
/-- C.x is a static method, its def at g -/
structure SMet (K : PySem.W.Frag) (C : Addr) (x : Str) (g : Addr) : Prop where
  ok : ∃ (mc : Value) (p : Addr) (rest : List Value), PySem.W.readsIn K C mc = true ∧ PySem.W.specialIn K (.ref C) "__getattribute__" = some (some (.builtin "type.__getattribute__")) ∧
    PySem.W.findCls K (.ref C) mc x = some (.get (.builtin "staticmethod.__get__") (.ref p) .none (.ref C)) ∧ PySem.W.recIn K p "staticmethod" = some (.ref g :: rest)
section
variable {X : Cx} {cl : Nat → Addr} {e o a b c tg : Expr} {es : List Expr} {m mo ma mb mc : ME} {ms : MA} {pos p apos : Pos} {K : PySem.W.Frag} {f g C : Addr} {n k j : Nat} {mf : MF} {P : Program} {w : World} {mg : Str → Option Value} {base : Heap} {x y : Str} {sp : Sp} {t : TA} {CX : CXT} {E : XK}
theorem getmethst_ok {pins : List (Addr × Obj)} {σ : L2.St} {H : Hp} {s : Shared} {A : Around} {E : Value → Shared → Prop} {pl : Sem Bool} {Q : Value × List Value → Shared → Prop} (I : Inv X pins σ H s) (S : SMet X.K C y g)
    (h : ∀ s', Inv X pins σ H s' → Q (.ref g, []) s') : wpAny (model X.prog X.w) A (getMethod (.ref C) y pl) Q E s := by
  obtain ⟨mc, p, rest, h1, h2, h3, h4⟩ := S.ok
  refine PySem.W.method_cls I.kIn h2 ?_
  refine PySem.W.cls_bind I.kIn h1 h3 ?_
  exact wpAny_call (PySem.W.sm_get (s := { s with toks := s.toks + 1 }) I.kIn h4 (PySem.W.handed_on rfl (h _ (I.tok _))))
theorem pe_static {pl : Sem Bool} (S : SMet X.K C y g) (hg : Gl X x) (hm : X.mg x = some (.ref C)) (hk : PySem.W.keepIn X.K (.ref g) = true) (F : FnR X.prog X.w X.K X.mg X.base CX k g sp) (hr : Room k X.A) (hx : Passes CX X E) (ha : PA X (e :: es) t) (hdb : (x == ("__debug__" : Str)) = false := by decide)
    (hst : starEach (e :: es) X.env = (false, eval e X.env) :: starEach es X.env := by rfl) (hpl : (backTo pos (starEach es X.env)).any (·.1) = false := by rfl)
    (ht : eval (.Call (.Attribute (.Name x p) y apos) (e :: es) [] pos) X.env = (do
      let ov ← eval (.Name x p) X.env
      standAt apos.atName
      let (f, first) ← holding [ov] (getMethod ov y pl)
      callWith pos f first (backTo pos (starEach (e :: es) X.env)) (backToKw pos (keywordEach [] X.env))) := by rfl) :
    PE X (.Call (.Attribute (.Name x p) y apos) (e :: es) [] pos) (tCall sp [] E t) := by
  refine ⟨fun pins s σ H Q I h => ?_⟩
  refine PySem.W.methodCall_KW (pl := pl) (thn ((pe_glob (v := .ref C) (pos := p) hg hm rfl hdb).run pins s σ H (fun z H1 => z = .ref C ∧ H1 = H) I ⟨rfl, rfl⟩) fun u s1 ⟨z, H1, I1, rx, ez, eH⟩ => ?_) ht
  subst ez
  subst eH
  obtain rfl : u = Value.ref C := rx
  refine getmethst_ok I1 S fun s2 I2 => ?_
  refine PySem.W.callWith_K (first := []) (h₀ := X.base) I.ok.mod.kin hk (thn (ha.run pos pins s2 σ H1 _ I2 h) fun us s3 ⟨ws, H2, I3, r, q2⟩ => ⟨I3.kIn, ?_⟩) hst hpl
  have q2 : sp (ws ++ []) H2 Q E := q2
  rw [List.append_nil] at q2
  exact wpAny_call (run_fnR F hr hx I3 r q2)
structure FT (P : Program) (w : World) (K : PySem.W.Frag) (mg : Str → Option Value) (base : Heap) (cl : Nat → Addr) (k : Nat) (x y : Str) (n : Nat) (m : MF) : Prop where
  ok : ∃ C g, mg x = some (.ref C) ∧ SMet K C y g ∧ FA P w K mg base cl k g n m
theorem se_static {pl : Sem Bool} (S : FT X.prog X.w X.K X.mg X.base cl k x y n mf) (hr : Room j X.A) (hk : k ≤ j) (ha : SA X cl (e :: es) ms) (hg : Gl X x := by rfl) (hdb : (x == ("__debug__" : Str)) = false := by decide)
    (hst : starEach (e :: es) X.env = (false, eval e X.env) :: starEach es X.env := by rfl) (hpl : (backTo pos (starEach es X.env)).any (·.1) = false := by rfl)
    (ht : eval (.Call (.Attribute (.Name x p) y apos) (e :: es) [] pos) X.env = (do
      let ov ← eval (.Name x p) X.env
      standAt apos.atName
      let (f, first) ← holding [ov] (getMethod ov y pl)
      callWith pos f first (backTo pos (starEach (e :: es) X.env)) (backToKw pos (keywordEach [] X.env))) := by rfl) :
    SE X cl (.Call (.Attribute (.Name x p) y apos) (e :: es) [] pos) (mCall mf ms) := by
  obtain ⟨C, g, h0, h1, h2⟩ := S
  exact PE.weak (pe_static (pl := pl) h1 hg h0 h2.kp h2.raw (hr.mono hk) pass0 ha hdb hst hpl ht) (call_imp h2.ar)

theorem se_con {z : Str} (h : ∃ t, X.mg x = some (.str z t)) (hg : Gl X x := by rfl) (hdb : (x == ("__debug__" : Str)) = false := by decide) : SE X cl (.Name x pos) (fun _ μ => some (.dat (.str z), μ)) := by
  obtain ⟨t, h⟩ := h
  refine PE.weak (pe_glob hg h (v := .str z) ⟨t, rfl⟩ hdb) fun σ H Q ⟨F, α, δ, μ, r, μ', C, Ee, hm, k⟩ => ?_
  cases hm
  exact k _ F H Evo.refl C (.str z)

@[simp] def flat1 : D → Bool
  | .non => true
  | .bl _ => true
  | .int _ => true
  | .str _ => true
  | _ => false
@[simp] def eqF : D → D → Bool
  | .non, .non => true
  | .bl a, .bl b => a == b
  | .bl a, .int b => (if a then 1 else 0) == b
  | .int a, .bl b => a == (if b then 1 else 0)
  | .int a, .int b => a == b
  | .str a, .str b => a == b
  | _, _ => false
theorem flat_rep {F : Hp} {v : V} {d : D} (h : Rep K cl F v d) (f : flat1 d = true) : flatV v = true := by
  cases h <;> first | rfl | cases f
theorem eq_rep {F : Hp} {v u : V} {d d' : D} (h : Rep K cl F v d) (h' : Rep K cl F u d') : flat1 d = true → flat1 d' = true → eqV v u = eqF d d' := by
  intro f f'
  cases h <;> (cases h' <;> first | rfl | exact absurd f Bool.false_ne_true | exact absurd f' Bool.false_ne_true)
theorem flats_rep {F : Hp} : ∀ {vs : List V} {ds : List D}, Reps K cl F vs ds → ds.all flat1 = true → vs.all flatV = true
  | _, _, .nil, _ => rfl
  | _, _, .cons r q, h => by
    rw [List.all_cons, Bool.and_eq_true] at h ⊢
    exact ⟨flat_rep r h.1, flats_rep q h.2⟩
theorem in_rep {F : Hp} {v : V} {d : D} (h : Rep K cl F v d) (f : flat1 d = true) : ∀ {vs : List V} {ds : List D}, Reps K cl F vs ds → ds.all flat1 = true → inV v vs = ds.any fun y => eqF y d
  | _, _, .nil, _ => rfl
  | _, _, .cons r q, hs => by
    rw [List.all_cons, Bool.and_eq_true] at hs
    unfold inV
    rw [List.any_cons, List.any_cons, eq_rep r h hs.1 f]
    exact congrArg _ (in_rep h f q hs.2)
@[simp] def fIn (neg : Bool) : R → R → Mu → Option R
  | .dat d, y, μ => match sqOf y μ with
    | some q => if flat1 d && q.all.all flat1 then some (.dat (.bl (if neg then !(q.all.any fun y => eqF y d) else q.all.any fun y => eqF y d))) else none
    | none => none
  | _, _, _ => none
theorem sem_in {neg : Bool} : OpSem K cl (rIn K neg) (fIn neg) := by
  intro F α μ H H0 x y rx ry z Q C h1 h2 hz k
  unfold fIn at hz
  split at hz
  · rename_i d
    split at hz
    · rename_i q e1
      split at hz
      · rename_i hf
        rw [Bool.and_eq_true] at hf
        cases hz
        obtain ⟨ad, vs, rfl, q1, q2⟩ := sqOf_ok C h2 e1
        have h1 : Rep K cl F x d := h1
        have e2 := in_rep h1 hf.1 q1 hf.2
        refine ⟨ad, vs, rfl, ?_, flat_rep h1 hf.1, flats_rep q1 hf.2, ?_⟩
        · cases q with
          | l xs => exact .inl q2
          | t xs => exact .inr q2
        · rw [e2]
          exact k _ F H Evo.refl C (.bl _)
      · cases hz
    · cases hz
  · cases hz
theorem se_in (ha : SE X cl a ma) (hb : SE X cl b mb) (hm : behindInMarks .In b = false := by rfl) : SE X cl (.Compare a [.In] [b] pos) (mOp (fIn false) ma mb) := se_cmp op_in_seq sem_in ha hb hm
theorem st_in (ha : SE X cl a ma) (hb : SE X cl b mb) (hm : behindInMarks .In b = false := by rfl) : ST X cl (.Compare a [.In] [b] pos) (mB (mOp (fIn false) ma mb)) := st_cmp op_in_seq sem_in ha hb hm
theorem se_notIn (ha : SE X cl a ma) (hb : SE X cl b mb) (hm : behindInMarks .NotIn b = false := by rfl) : SE X cl (.Compare a [.NotIn] [b] pos) (mOp (fIn true) ma mb) := se_cmp op_notIn_seq sem_in ha hb hm
theorem st_notIn (ha : SE X cl a ma) (hb : SE X cl b mb) (hm : behindInMarks .NotIn b = false := by rfl) : ST X cl (.Compare a [.NotIn] [b] pos) (mB (mOp (fIn true) ma mb)) := st_cmp op_notIn_seq sem_in ha hb hm

@[simp] def mStar (m : ME) (ms : MA) : MA := fun δ μ => match m δ μ with
  | none => none
  | some (r, μ1) => match sqOf (froz r) μ1 with
    | none => none
    | some q => match ms δ μ1 with
      | none => none
      | some (rs, μ2) => some (q.all.map R.dat ++ rs, μ2)
theorem args_reps {F : Hp} {α : List Addr} : ∀ {vs : List V} {ds : List D}, Reps K cl F vs ds → ArgRs K cl F α vs (ds.map R.dat)
  | _, _, .nil => .nil
  | _, _, .cons r q => .cons r (args_reps q)
theorem sa_star {ms : MA} {p : Pos} (ha : SE X cl a m) (hr : SA X cl es ms) (hs : starEach (.Starred a p :: es) X.env = (true, eval a X.env) :: starEach es X.env := by rfl) : SA X cl (.Starred a p :: es) (mStar m ms) := by
  refine PA.weak (StX.pa_star ha hr hs) fun σ H Q ⟨F, α, δ, μ, z, μ', C, Ee, hm, k⟩ => ?_
  unfold mStar at hm
  split at hm
  · cases hm
  rename_i r1 μ1 h1
  split at hm
  · cases hm
  rename_i q e1
  split at hm
  · cases hm
  rename_i rs μ2 h2
  cases hm
  refine ⟨F, α, δ, μ, r1, μ1, C, Ee, h1, fun v F1 H1 e2 c1 q1 => ?_⟩
  obtain ⟨F1', e1', c1', q1'⟩ := freeze e2 c1 q1
  obtain ⟨ad, vs, rfl, g1, g2⟩ := sqOf_ok c1' q1' e1
  refine ⟨ad, vs, rfl, ?_, F1', α, δ, μ1, rs, μ', c1', Ee.step e1', h2, fun us F2 H2 e3 c2 q2 => k _ F2 H2 (e1'.trans e3) c2 (ArgRs.append (args_reps (g1.mono e3.ff)) q2)⟩
  cases q with
  | l xs => exact .inr g2
  | t xs => exact .inl g2
end
theorem FT.x {P : Program} {w : World} {K : PySem.W.Frag} {mg : Str → Option Value} {base : Heap} {cl : Nat → Addr} {k n : Nat} {cn fn : Str} {mf : MF} (S : FT P w K mg base cl k cn fn n mf) : FT P w K mg base cl k cn fn n (callX mf) := by
  obtain ⟨C, g, h0, h1, h2⟩ := S
  exact ⟨C, g, h0, h1, h2.x⟩
end DL
set_option Elab.async false
set_option linter.all false
set_option maxRecDepth 100000
set_option maxHeartbeats 1000000

namespace DL
open PySem PySem.Spec PyProof.Rows L2
section
variable {X : Cx} {cl : Nat → Addr} {e o a b c tg : Expr} {es : List Expr} {m mo ma mb mc : ME} {ms : MA} {pos p apos : Pos} {K : PySem.W.Frag} {f g C x dx : Addr} {n k j i : Nat} {mf : MF} {P : Program} {w : World} {mg : Str → Option Value} {base : Heap} {F0 F F1 H0 H H1 : Hp} {α : List Addr} {μ μ1 : Mu} {v : V} {d : D}
def PRel (K : PySem.W.Frag) (cl : Nat → Addr) (F : Hp) (vs : List (Option V)) (pd : List (Option D)) : Prop := vs.length = pd.length ∧ ∀ (i : Nat) (d : D), pd[i]? = some (some d) → ∃ v, vs[i]? = some (some v) ∧ Rep K cl F v d
def putD (i : Nat) (d : D) (pd : List (Option D)) : List (Option D) := (pd ++ List.replicate (i + 1 - pd.length) none).set i (some d)
theorem putD_get {pd : List (Option D)} {j : Nat} : (putD i d pd)[j]? = if i = j then some (some d) else (pd ++ List.replicate (i + 1 - pd.length) none)[j]? := by
  unfold putD
  rw [List.getElem?_set]
  have hl : i < (pd ++ List.replicate (i + 1 - pd.length) none).length := by
    rw [List.length_append, List.length_replicate]
    omega
  rw [if_pos hl]
theorem PRel.mono {vs : List (Option V)} {pd : List (Option D)} (h : PRel K cl F vs pd) (s : Same F F1) : PRel K cl F1 vs pd := ⟨h.1, fun i d q => by
  obtain ⟨v, h1, h2⟩ := h.2 i d q
  exact ⟨v, h1, h2.mono s⟩⟩
theorem PRel.put {vs : List (Option V)} {pd : List (Option D)} (h : PRel K cl F vs pd) (i : Nat) (r : Rep K cl F v d) : PRel K cl F (SlX.putS i v vs) (putD i d pd) := by
  refine ⟨?_, fun j d' q => ?_⟩
  · unfold SlX.putS putD
    simp only [List.length_set, List.length_append, List.length_replicate, h.1]
  · by_cases hj : i = j
    · subst hj
      rw [putD_get, if_pos rfl] at q
      cases q
      exact ⟨v, SlX.putS_get i v vs, r⟩
    · rw [putD_get, if_neg hj] at q
      have q2 : pd[j]? = some (some d') := by
        by_cases hl : j < pd.length
        · rw [List.getElem?_append_left hl] at q
          exact q
        · rw [List.getElem?_append_right (by omega), List.getElem?_replicate] at q
          split at q
          · cases q
          · cases q
      obtain ⟨v', h1, h2⟩ := h.2 j d' q2
      exact ⟨v', (SlX.putS_ne (fun z => hj z.symm)).mpr h1, h2⟩
structure Bd (C x dx : Addr) (H0 F0 : Hp) (α : List Addr) (F H : Hp) (vs : List (Option V)) : Prop where
  ev : Evo F0 α H0 F α H
  sl : SlX.Slt H x C dx vs
  fx : F x = none
  fd : F dx = none
  ax : x ∉ α
  ad : dx ∉ α
  ne : dx ≠ x
  ox : H0 x = none
  od : H0 dx = none
  hd : ∃ u, H dx = some u
theorem slt_some {vs : List (Option V)} (h : SlX.Slt H x C dx vs) : ∃ u, H x = some u := by
  rcases h with ⟨h, _⟩ | ⟨h, _⟩
  · exact ⟨_, h⟩
  · exact ⟨_, h⟩
theorem Bd.step {vs : List (Option V)} (h : Bd C x dx H0 F0 α F H vs) (e : Evo F α H F1 α H1) : Bd C x dx H0 F0 α F1 H1 vs := by
  obtain ⟨u, hu⟩ := slt_some h.sl
  obtain ⟨u', hu'⟩ := h.hd
  refine ⟨h.ev.trans e, ?_, ?_, ?_, h.ax, h.ad, h.ne, h.ox, h.od, u', e.hh dx _ hu' h.ad⟩
  · rcases h.sl with ⟨h1, h2⟩ | ⟨h1, h2⟩
    · exact .inl ⟨e.hh x _ h1 h.ax, h2⟩
    · exact .inr ⟨e.hh x _ h1 h.ax, e.hh dx _ h2 h.ad⟩
  · cases q : F1 x with
    | none => rfl
    | some o =>
      have := e.fre x o h.fx q
      rw [hu] at this
      cases this
  · cases q : F1 dx with
    | none => rfl
    | some o =>
      have := e.fre dx o h.fd q
      rw [hu'] at this
      cases this
theorem slH_x {vs : List (Option V)} : SlX.slH H x C dx vs x = some (SlX.SlO x C dx vs) := by
  unfold SlX.slH
  exact upd_same
theorem slH_d {vs : List (Option V)} (h : dx ≠ x) : SlX.slH H x C dx vs dx = some (.xd []) := by
  unfold SlX.slH
  rw [upd_ne h, upd_same]
theorem Bd.put {vs : List (Option V)} (h : Bd C x dx H0 F0 α F H vs) (c : Conc K cl F α μ H) (ws : List (Option V)) : Bd C x dx H0 F0 α F (SlX.slH H x C dx ws) ws ∧ Conc K cl F α μ (SlX.slH H x C dx ws) := by
  refine ⟨⟨⟨h.ev.ff, h.ev.ext, fun a o q1 q2 => ?_, fun a q => ?_, h.ev.fre, h.ev.fra⟩, SlX.slH_slt h.ne, h.fx, h.fd, h.ax, h.ad, h.ne, h.ox, h.od, _, slH_d h.ne⟩, ⟨fun a o q => ?_, c.len, c.nd, fun k a xs q1 q2 => ?_, c.out⟩⟩
  · rw [SlX.slH_ne (fun z => by rw [z, h.ox] at q1; cases q1) (fun z => by rw [z, h.od] at q1; cases q1)]
    exact h.ev.hh a o q1 q2
  · by_cases z : a = x
    · rw [z]
      exact h.ox
    · by_cases z2 : a = dx
      · rw [z2]
        exact h.od
      · rw [SlX.slH_ne z z2] at q
        exact h.ev.dom a q
  · rw [SlX.slH_ne (fun z => by rw [z, h.fx] at q; cases q) (fun z => by rw [z, h.fd] at q; cases q)]
    exact c.sub a o q
  · have ha : a ∈ α := List.mem_of_getElem? q1
    rw [SlX.slH_ne (fun z => h.ax (by rw [← z]; exact ha)) (fun z => h.ad (by rw [← z]; exact ha))]
    exact c.cell k a xs q1 q2

abbrev MB := Sl → Mu → List (Option D) → Option (Mu × List (Option D))
def tmb (K : PySem.W.Frag) (cl : Nat → Addr) (C : Addr) (mb : MB) : TS := fun E σ H => ∃ H0 F0 F α δ μ x dx vs pd μ' pd', Conc K cl F α μ H ∧ EnvOk K cl F α σ δ ∧ σ[0]? = some (some (.ref x)) ∧ Bd C x dx H0 F0 α F H vs ∧ PRel K cl F vs pd ∧ mb δ μ pd = some (μ', pd') ∧
  ∀ F' H' vs', Conc K cl F' α μ' H' → EnvOk K cl F' α σ δ → Bd C x dx H0 F0 α F' H' vs' → PRel K cl F' vs' pd' → E.nx σ H'
abbrev SB (X : Cx) (cl : Nat → Addr) (c : Nat) (st : Stmt) (mb : MB) : Prop := PS X st (tmb X.K cl (cl c) mb)
abbrev SBs (X : Cx) (cl : Nat → Addr) (c : Nat) (st : List Stmt) (mb : MB) : Prop := PSs X st (tmb X.K cl (cl c) mb)
@[simp] def mbSeq (m1 m2 : MB) : MB := fun δ μ pd => match m1 δ μ pd with
  | some (μ1, pd1) => m2 δ μ1 pd1
  | none => none
theorem sbs_one {c : Nat} {st : Stmt} {m1 : MB} (h : SB X cl c st m1) : SBs X cl c [st] m1 := pss_one h
theorem sbs_cons {c : Nat} {st : Stmt} {sts : List Stmt} {m1 m2 : MB} (h1 : SB X cl c st m1) (h2 : SBs X cl c sts m2) : SBs X cl c (st :: sts) (mbSeq m1 m2) := by
  refine PSs.weak (pss_cons h1 h2) fun E σ H ⟨H0, F0, F, α, δ, μ, x, dx, vs, pd, μ', pd', C, Ee, hs, B, R, hm, k⟩ => ?_
  unfold mbSeq at hm
  split at hm
  · rename_i μ1 pd1 e1
    exact ⟨H0, F0, F, α, δ, μ, x, dx, vs, pd, μ1, pd1, C, Ee, hs, B, R, e1, fun F1 H1 vs1 C1 E1 B1 R1 => ⟨H0, F0, F1, α, δ, μ1, x, dx, vs1, pd1, μ', pd', C1, E1, hs, B1, R1, hm, k⟩⟩
  · cases hm
@[simp] def mbSet (i : Nat) (m : ME) : MB := fun δ μ pd => match m δ μ with
  | some (r, μ1) => match toD r with
    | some d => some (μ1, putD i d pd)
    | none => none
  | none => none
theorem sb_set {c i : Nat} {fs : List Str} {y self : Str} {p1 p2 : Pos} (S : ClS X.K cl c fs) (he : SE X cl e m) (hi : fs[i]? = some y := by rfl) (hN : X.N[0]? = some self := by rfl)
    (hv : Vis X.env.scope self := by first | exact Or.inl rfl | exact Or.inr (Or.inl rfl) | exact Or.inr (Or.inr rfl)) (hd : (self == ("__debug__" : Str)) = false := by decide) (hcd : (self == ("__classdict__" : Str)) = false := by decide)
    (hs : swapsWith e (some (.Attribute (.Name self p1) y p2)) pos.line X.env = pure false := by rfl) : SB X cl c (.Assign [.Attribute (.Name self p1) y p2] e pos) (mbSet i m) := by
  refine PS.weak (SlX.ps_sl (pe_var hN hv hd hcd) he hs) fun E σ H ⟨H0, F0, F, α, δ, μ, x, dx, vs, pd, μ', pd', C, Ee, hs, B, R, hm, k⟩ => ?_
  unfold mbSet at hm
  split at hm
  · rename_i r μ1 h1
    split at hm
    · rename_i d h2
      cases hm
      refine ⟨F, α, δ, μ, r, _, C, Ee, h1, fun v F1 H1 e1 c1 q1 => ?_⟩
      obtain ⟨F2, e2, c2, r2⟩ := freeze e1 c1 q1
      rw [froz_dat h2] at r2
      obtain ⟨p, hp⟩ := S.sl i y hi
      have B2 := B.step e2
      obtain ⟨B3, c3⟩ := B2.put c2 (SlX.putS i v vs)
      exact ⟨.ref x, hs, x, cl c, dx, p, vs, i, rfl, B2.sl, S.s, hp, k F2 _ _ c3 (Ee.step e2) B3 ((R.mono e2.ff).put i r2)⟩
    · cases hm
  · cases hm
end
end DL
set_option Elab.async false
set_option linter.all false
set_option maxRecDepth 100000
set_option maxHeartbeats 1000000
namespace DL
open PySem PySem.Spec PyProof.Rows L2
section
variable {X : Cx} {cl : Nat → Addr} {e o a b c tg : Expr} {es : List Expr} {m mo ma mb mc : ME} {ms : MA} {pos p apos : Pos} {K : PySem.W.Frag} {f g C x dx : Addr} {n k j i : Nat} {mf : MF} {P : Program} {w : World} {mg : Str → Option Value} {base : Heap} {F0 F F1 H0 H H1 : Hp} {α : List Addr} {μ μ1 : Mu} {v : V} {d : D}
/-- self.y as a target -/
def gSl (K : PySem.W.Frag) (to : TE) (y : Str) : TG := fun v σ H Q => to σ H fun z H1 => ∃ a C dx p vs i, z = .ref a ∧ SlX.Slt H1 a C dx vs ∧ SlX.SCls K C ∧ SlX.Slot1 K C y p i ∧ Q σ (SlX.slH H1 a C dx (SlX.putS i v vs))
theorem pg_sl {to : TE} {y : Str} (ho : PE X o to) (ha : ∀ v, assign (.Attribute o y pos) X.env v = (do
      let ov ← holding [v] (eval o X.env)
      standAt pos.atName
      holding [v, ov] (setAttr ov y v)
      release [v, ov] []) := by intro _; rfl) : PG X (.Attribute o y pos) (gSl X.K to y) := by
  refine ⟨fun pins s σ H v u Q I r h => ?_⟩
  rw [ha]
  refine wpAny_bind (wpAny_holding (thn (ho.run pins s σ H _ I h) fun ov s1 ⟨z, H1, I1, r1, a, C, dx, p, vs, i, ez, hsl, c, t, q⟩ => ?_))
  subst ez
  obtain rfl : ov = Value.ref a := r1
  refine wpAny_bind (wpAny_standAt (wpAny_bind (wpAny_holding (SlX.setslot_ok I1 hsl c t r fun s3 I3 => ?_))))
  exact wpAny_release ⟨σ, _, I3, q⟩
def putDs : List Nat → List D → List (Option D) → Option (List (Option D))
  | [], [], pd => some pd
  | i :: is, d :: ds, pd => putDs is ds (putD i d pd)
  | _, _, _ => none
/-- the targets ts, stored one after another, are the fields is -/
def GsOk (X : Cx) (cl : Nat → Addr) (c : Nat) (ts : List Expr) (g : TGs) (is : List Nat) : Prop := PGs X ts g ∧ ∀ (ds : List D) (us : List V) (σ : L2.St) (H H0 F0 F : Hp) (α : List Addr) (μ : Mu) (x dx : Addr) (vs : List (Option V)) (pd pd' : List (Option D)) (Q : L2.St → Hp → Prop),
  Conc X.K cl F α μ H → σ[0]? = some (some (.ref x)) → Bd (cl c) x dx H0 F0 α F H vs → PRel X.K cl F vs pd → Reps X.K cl F us ds → putDs is ds pd = some pd' →
  (∀ H' vs', Conc X.K cl F α μ H' → Bd (cl c) x dx H0 F0 α F H' vs' → PRel X.K cl F vs' pd' → Q σ H') → g us σ H Q
theorem gs_nil {c : Nat} : GsOk X cl c [] gNil [] := by
  refine ⟨pgs_nil, fun ds us σ H H0 F0 F α μ x dx vs pd pd' Q C hs B R r hp k => ?_⟩
  cases r with
  | nil =>
    cases hp
    exact ⟨rfl, k H vs C B R⟩
  | cons _ _ => cases hp
theorem gs_cons {c i : Nat} {fs : List Str} {y self : Str} {p1 p2 : Pos} {ts : List Expr} {g : TGs} {is : List Nat} (S : ClS X.K cl c fs) (h : GsOk X cl c ts g is) (hi : fs[i]? = some y := by rfl) (hN : X.N[0]? = some self := by rfl)
    (hv : Vis X.env.scope self := by first | exact Or.inl rfl | exact Or.inr (Or.inl rfl) | exact Or.inr (Or.inr rfl)) (hd : (self == ("__debug__" : Str)) = false := by decide) (hcd : (self == ("__classdict__" : Str)) = false := by decide)
    (hs : (assignEach (.Attribute (.Name self p1) y p2 :: ts) X.env).map (·.2) = assign (.Attribute (.Name self p1) y p2) X.env :: (assignEach ts X.env).map (·.2) := by rfl) :
    GsOk X cl c (.Attribute (.Name self p1) y p2 :: ts) (gCons (gSl X.K (tVar 0) y) g) (i :: is) := by
  refine ⟨pgs_cons (pg_sl (pe_var hN hv hd hcd)) h.1 hs, fun ds us σ H H0 F0 F α μ x dx vs pd pd' Q C hs B R r hp k => ?_⟩
  cases r with
  | nil => cases hp
  | cons r q =>
    obtain ⟨p, hpp⟩ := S.sl i y hi
    obtain ⟨B3, c3⟩ := B.put C (SlX.putS i _ vs)
    exact ⟨_, _, rfl, .ref x, hs, x, cl c, dx, p, vs, i, rfl, B.sl, S.s, hpp, h.2 _ _ σ _ H0 F0 F α μ x dx _ _ pd' Q c3 hs B3 (R.put i r) q hp k⟩
@[simp] def mbTup (is : List Nat) (m : ME) : MB := fun δ μ pd => match m δ μ with
  | some (.dat (.tup ds), μ1) => if ds.length = is.length then match putDs is ds pd with
      | some pd' => some (μ1, pd')
      | none => none
    else none
  | _ => none
theorem sb_tup {c : Nat} {ts : List Expr} {g : TGs} {is : List Nat} {kt : Nat} {pt : Pos} (h : GsOk X cl c ts g is) (he : SE X cl e m) (hc : X.calm = true := by rfl) (hn : (assignEach ts X.env).length = is.length := by rfl) (hst : (assignEach ts X.env).findIdx? (·.1) = none := by rfl)
    (hs : swapsWithSole [.Tuple ts kt pt] e pos.line X.env = pure false := by rfl) (hw : swappedStores [.Tuple ts kt pt] e X.env = pure none := by rfl)
    (h1 : (assignEach [.Tuple ts kt pt] X.env).map (·.2) = [assign (.Tuple ts kt pt) X.env] := by rfl) : SB X cl c (.Assign [.Tuple ts kt pt] e pos) (mbTup is m) := by
  refine PS.weak (ps_asg he (pg_tup hc h.1 hn hst) hs hw h1) fun E σ H ⟨H0, F0, F, α, δ, μ, x, dx, vs, pd, μ', pd', C, Ee, hs, B, R, hm, k⟩ => ?_
  unfold mbTup at hm
  split at hm
  · rename_i ds μ1 h1
    split at hm
    · rename_i hl
      split at hm
      · rename_i pd1 h2
        cases hm
        refine ⟨F, α, δ, μ, _, _, C, Ee, h1, fun v F1 H1 e1 c1 q1 => ?_⟩
        cases q1 with
        | tup hq hr =>
          refine ⟨_, _, rfl, Same.sqT c1.sub hq, by rw [hr.length, hl], h.2 ds _ σ H1 H0 F0 F1 α μ' x dx vs pd pd' E.nx c1 hs (B.step e1) (R.mono e1.ff) hr h2 fun H2 vs2 c2 B2 R2 => k F1 H2 vs2 c2 (Ee.step e1) B2 R2⟩
      · cases hm
    · cases hm
  · cases hm
/-- if c: ..; the test is false -/
@[simp] def mbIf (mt : MT) : MB := fun δ μ pd => match mt δ μ with
  | some (false, μ1) => some (μ1, pd)
  | _ => none
theorem sb_if {c : Nat} {ec : Expr} {mt : MT} {xs : List Stmt} (hc : ST X cl ec mt) : SB X cl c (.If ec xs [] pos) (mbIf mt) := by
  refine PS.weak (ps_if hc pss_never pss_nil) fun E σ H ⟨H0, F0, F, α, δ, μ, x, dx, vs, pd, μ', pd', C, Ee, hs, B, R, hm, k⟩ => ?_
  unfold mbIf at hm
  split at hm
  · rename_i μ1 h1
    cases hm
    exact ⟨F, α, δ, μ, _, _, C, Ee, h1, fun F1 H1 e1 c1 => iteF (k F1 H1 vs c1 (Ee.step e1) (B.step e1) (R.mono e1.ff))⟩
  · cases hm
end
end DL
set_option Elab.async false
set_option linter.all false
set_option maxRecDepth 100000
set_option maxHeartbeats 1000000
namespace DL
open PySem PySem.Spec PyProof.Rows L2
abbrev MIn := List R → Mu → Option (List D × Mu)
def someAll : List (Option D) → Option (List D)
  | [] => some []
  | some d :: xs => match someAll xs with
    | some ds => some (d :: ds)
    | none => none
  | none :: _ => none
@[simp] def mInit (n N : Nat) (mb : MB) : MIn := fun rs μ => if rs.length + 1 = n then
    match mb (.no :: (rs ++ List.replicate (N - n) .no)) μ [] with
    | some (μ', pd) => match someAll pd with
      | some ds => some (ds, μ')
      | none => none
    | none => none
  else none
def spI (K : PySem.W.Frag) (cl : Nat → Addr) (c n : Nat) (mi : MIn) : Sp := fun vs H Q _ => ∃ x dx H0 ws F α μ rs ds μ', vs = .ref x :: ws ∧ vs.length = n ∧ H0 x = none ∧ H0 dx = none ∧ dx ≠ x ∧ H = upd (upd H0 dx (.own x)) x (.ins (cl c) dx []) ∧
  Conc K cl F α μ H0 ∧ ArgRs K cl F α ws rs ∧ mi rs μ = some (ds, μ') ∧ ∀ F' H', Evo F α H0 F' α H' → Conc K cl F' α μ' H' → Rep K cl F' (.ref x) (.ins c ds) → Q .non H'
section
variable {K : PySem.W.Frag} {cl : Nat → Addr}
theorem someAll_ok : ∀ {pd : List (Option D)} {ds : List D}, someAll pd = some ds → pd = ds.map some
  | [], _, h => by
    cases h
    rfl
  | some d :: pd, _, h => by
    unfold someAll at h
    split at h
    · rename_i ds e
      cases h
      rw [List.map_cons, someAll_ok e]
    · cases h
  | none :: _, _, h => by cases h
theorem prel_all {F : Hp} : ∀ {ds : List D} {vs : List (Option V)}, PRel K cl F vs (ds.map some) → ∃ us, vs = us.map some ∧ Reps K cl F us ds
  | [], vs, h => by
    have := h.1
    cases vs with
    | nil => exact ⟨[], rfl, .nil⟩
    | cons _ _ => simp at this
  | d :: ds, vs, h => by
    cases vs with
    | nil =>
      have := h.1
      simp at this
    | cons o vs =>
      obtain ⟨v, h1, h2⟩ := h.2 0 d rfl
      rw [List.getElem?_cons_zero] at h1
      cases h1
      obtain ⟨us, h3, h4⟩ := prel_all (ds := ds) (vs := vs) ⟨by simpa using h.1, fun i d' q => by
        obtain ⟨v', h5, h6⟩ := h.2 (i + 1) d' (by simpa using q)
        exact ⟨v', by simpa using h5, h6⟩⟩
      exact ⟨v :: us, by rw [h3]; rfl, .cons h2 h4⟩
theorem env_cons {F : Hp} {α : List Addr} {σ : L2.St} {δ : Sl} {o : Option V} (h : EnvOk K cl F α σ δ) : EnvOk K cl F α (o :: σ) (.no :: δ) := by
  refine ⟨by simp [h.1], fun i d q => ?_, fun i k q => ?_⟩
  · cases i with
    | zero => simp at q
    | succ i =>
      rw [List.getElem?_cons_succ] at q ⊢
      exact h.2.1 i d q
  · cases i with
    | zero => simp at q
    | succ i =>
      rw [List.getElem?_cons_succ] at q ⊢
      exact h.2.2 i k q
theorem fresh_new {F H : Hp} {α : List Addr} {μ : Mu} {C x dx : Addr} (c : Conc K cl F α μ H) (hx : H x = none) (hd : H dx = none) (ne : dx ≠ x) :
    Bd C x dx H F α F (upd (upd H dx (.own x)) x (.ins C dx [])) [] ∧ Conc K cl F α μ (upd (upd H dx (.own x)) x (.ins C dx [])) := by
  have get : ∀ a, a ≠ x → a ≠ dx → upd (upd H dx (.own x)) x (.ins C dx []) a = H a := fun a h1 h2 => by rw [upd_ne h1, upd_ne h2]
  have nF : ∀ a, H a = none → F a = none := fun a h => by
    cases e : F a with
    | none => rfl
    | some u =>
      rw [c.sub a u e] at h
      cases h
  have nA : ∀ a, H a = none → a ∉ α := fun a h z => by
    obtain ⟨k, hk, ek⟩ := List.mem_iff_getElem.mp z
    have hk2 : k < μ.length := by rw [← c.len]; exact hk
    obtain ⟨vs, q⟩ := (c.cell k a μ[k] (by rw [List.getElem?_eq_getElem hk, ek]) (List.getElem?_eq_getElem hk2)).some
    rw [h] at q
    cases q
  have some_ne : ∀ a u, H a = some u → a ≠ x ∧ a ≠ dx := fun a u h => ⟨ne_of_none h hx, ne_of_none h hd⟩
  refine ⟨⟨⟨Same.refl F, ⟨[], by simp⟩, fun a o q _ => ?_, fun a q => ?_, fun a o q1 q2 => ?_, fun a q1 q2 => absurd q1 q2⟩, .inl ⟨upd_same, rfl⟩, nF x hx, nF dx hd, nA x hx, nA dx hd, ne, hx, hd, _, by rw [upd_ne ne, upd_same]⟩, ⟨fun a o q => ?_, c.len, c.nd, fun k a xs q1 q2 => ?_, c.out⟩⟩
  · rw [get a (some_ne a o q).1 (some_ne a o q).2]
    exact q
  · by_cases z : a = x
    · rw [z]
      exact hx
    · by_cases z2 : a = dx
      · rw [z2]
        exact hd
      · rw [get a z z2] at q
        exact q
  · rw [q1] at q2
    cases q2
  · have q' := c.sub a o q
    rw [get a (some_ne a o q').1 (some_ne a o q').2]
    exact q'
  · have q := c.cell k a xs q1 q2
    obtain ⟨u, q3⟩ := q.some
    rw [get a (some_ne a _ q3).1 (some_ne a _ q3).2]
    exact q
/-- the new instance is data from now on -/
theorem Bd.done {C x dx : Addr} {H0 F0 F H : Hp} {α : List Addr} {μ : Mu} {us : List V} {u : V} (h : Bd C x dx H0 F0 α F H ((u :: us).map some)) (c : Conc K cl F α μ H) :
    ∃ F', Evo F0 α H0 F' α H ∧ Conc K cl F' α μ H ∧ Same F F' ∧ SlX.Slt F' x C dx ((u :: us).map some) ∧ F' x = some (SlX.SlO x C dx ((u :: us).map some)) := by
  have hs : H x = some (SlX.SlO x C dx ((u :: us).map some)) ∧ H dx = some (.xd []) := by
    rcases h.sl with ⟨_, z⟩ | z
    · simp at z
    · exact z
  have s1 : Same F (upd F dx (.xd [])) := same_upd h.fd
  have s2 : Same (upd F dx (.xd [])) (upd (upd F dx (.xd [])) x (SlX.SlO x C dx ((u :: us).map some))) := same_upd (by rw [upd_ne h.ne.symm]; exact h.fx)
  refine ⟨upd (upd F dx (.xd [])) x (SlX.SlO x C dx ((u :: us).map some)), ⟨h.ev.ff.trans (s1.trans s2), h.ev.ext, h.ev.hh, h.ev.dom, fun a o q1 q2 => ?_, h.ev.fra⟩, ⟨fun a o q => ?_, c.len, c.nd, fun k a xs q1 q2 => ?_, fun a ha => ?_⟩, s1.trans s2, .inr ⟨upd_same, by rw [upd_ne h.ne, upd_same]⟩, upd_same⟩
  · by_cases z : a = x
    · rw [z]
      exact h.ox
    · have q3 := upd_some_ne q2 z
      by_cases z2 : a = dx
      · rw [z2]
        exact h.od
      · exact h.ev.fre a o q1 (upd_some_ne q3 z2)
  · by_cases z : a = x
    · subst z
      rw [upd_same] at q
      cases q
      exact hs.1
    · have q3 := upd_some_ne q z
      by_cases z2 : a = dx
      · subst z2
        rw [upd_same] at q3
        cases q3
        exact hs.2
      · exact c.sub a o (upd_some_ne q3 z2)
  · exact (c.cell k a xs q1 q2).monoF (s1.trans s2)
  · rw [upd_ne (fun z => h.ax (by rw [← z]; exact ha)), upd_ne (fun z => h.ad (by rw [← z]; exact ha))]
    exact c.out a ha
theorem init_ok {P : Program} {w : World} {mg : Str → Option Value} {base : Heap} {x qual : Str} {st : Stmt} {f : Addr} {fd : FuncData} {N ps : List Str} {k n c : Nat} {body : MB} (F : Fun K x qual st f fd) (S : FnScope N ps (defScope st)) (hn : ps.length = n) (hN : n ≤ N.length)
    (hne : ∀ δ μ pd μ', body δ μ pd ≠ some (μ', []))
    (hb : ∀ (cdv : Value) (A : Around) (outer : List Env) (s : Shared) (H : Hp) (E : XK), Room k (A.deeper (envOfC qual (defScope st) s.heap.objs.size f cdv)) →
      SBs (cxOf CX0 P w K mg base N qual (defScope st) f cdv A outer s H E).nox cl c (defBody st) body) : FnOk P w K mg base CX0 (k + 1) f fd ps (spI K cl c n (mInit n N.length body)) := by
  refine F.ok S (fun vs H Q E h => ?_) (fun cdv A outer s H vs Q E hr h => ⟨_, hb cdv A outer s H E hr, ?_⟩)
  · obtain ⟨_, _, _, _, _, _, _, _, _, _, _, h, _⟩ := h
    rw [h, hn]
  · obtain ⟨y, dx, H0, ws, F, α, μ, rs, ds, μ', rfl, hl, hx, hd, ne, rfl, C, ha, hm, k⟩ := h
    unfold mInit at hm
    split at hm
    · rename_i hrs
      split at hm
      · rename_i μ1 pd h1
        split at hm
        · rename_i ds' h2
          cases hm
          obtain ⟨B, C1⟩ := fresh_new (C := cl c) C hx hd ne
          have hst : L2.start N (.ref y :: ws) = some (.ref y) :: L2.start (N.drop 1) ws := by
            unfold L2.start
            cases N with
            | nil => simp at hN; omega
            | cons a N => simp
          have en : EnvOk K cl F α (L2.start N (.ref y :: ws)) (.no :: (rs ++ List.replicate (N.length - n) .no)) := by
            rw [hst]
            have en0 := env_start (N := N.drop 1) ha
            have e1 : (N.drop 1).length - rs.length = N.length - n := by
              rw [List.length_drop]
              omega
            rw [e1] at en0
            exact env_cons en0
          refine ⟨H0, F, F, α, _, μ, y, dx, [], [], μ', pd, C1, en, by rw [hst]; rfl, B, ⟨rfl, fun i d q => by simp at q⟩, h1, fun F1 H1 vs1 c1 e1 B1 R1 => ?_⟩
          rw [someAll_ok h2] at R1
          obtain ⟨us, rfl, q1⟩ := prel_all R1
          cases us with
          | nil =>
            cases q1
            rw [someAll_ok h2] at h1
            exact absurd h1 (hne _ _ _ _)
          | cons u us =>
            obtain ⟨F2, e2, c2, s2, s3, s4⟩ := B1.done c1
            exact k F2 H1 e2 c2 (.ins s3 s4 (q1.mono s2))
        · cases hm
      · cases hm
    · cases hm
end
end DL
set_option Elab.async false
set_option linter.all false
set_option maxRecDepth 100000
set_option maxHeartbeats 1000000
namespace DL
open PySem PySem.Spec PyProof.Rows L2
/-- the class number c, by its name: how it is made -/
structure FI (P : Program) (w : World) (K : PySem.W.Frag) (mg : Str → Option Value) (base : Heap) (cl : Nat → Addr) (k c : Nat) (x : Str) (n : Nat) (mi : MIn) : Prop where
  ok : ∃ (f : Addr) (fd : FuncData) (ps : List Str), Mk K (cl c) f ∧ FnOk P w K mg base CX0 k f fd ps (spI K cl c n mi) ∧ mg x = some (.ref (cl c)) ∧ Binds K fd ps [] ∧ ps.length = n
  ar : ∀ rs μ z, mi rs μ = some z → rs.length + 1 = n
theorem mInit_ar {n N : Nat} {body : MB} : ∀ rs μ z, mInit n N body rs μ = some z → rs.length + 1 = n := fun rs μ z h => by
  unfold mInit at h
  split at h
  · rename_i h1
    exact h1
  · cases h
section
variable {X : Cx} {cl : Nat → Addr} {e o a b tg : Expr} {es : List Expr} {m mo ma mb : ME} {ms : MA} {pos p apos : Pos} {K : PySem.W.Frag} {f g C : Addr} {n k j c : Nat} {mf : MF} {mi : MIn} {P : Program} {w : World} {mg : Str → Option Value} {base : Heap} {nm : Str}
@[simp] def mMake (c : Nat) (mi : MIn) (ms : MA) : ME := fun δ μ => match ms δ μ with
  | none => none
  | some (rs, μ1) => match mi rs μ1 with
    | none => none
    | some (ds, μ2) => some (.dat (.ins c ds), μ2)
theorem se_make (S : FI X.prog X.w X.K X.mg X.base cl k c nm n mi) (hr : Room j X.A) (hk : k + 1 ≤ j) (ha : SA X cl (e :: es) ms) (hg : Gl X nm := by rfl) (hdb : (nm == ("__debug__" : Str)) = false := by decide) (he : starEach (e :: es) X.env = (false, eval e X.env) :: starEach es X.env := by rfl) (hpl : (backTo pos (starEach es X.env)).any (·.1) = false := by rfl) :
    SE X cl (.Call (.Name nm p) (e :: es) [] pos) (mMake c mi ms) := by
  obtain ⟨f, fd, ps, M, F, hm, hb, hn⟩ := S.ok
  refine PE.weak (pe_make M F (hr.mono hk) hg hm hb .nil pass0 ha hdb he hpl) fun σ H Q ⟨F, α, δ, μ, z, μ', C, Ee, hm, kk⟩ => ?_
  unfold mMake at hm
  split at hm
  · cases hm
  rename_i rs μ1 h1
  split at hm
  · cases hm
  rename_i ds μ2 h2
  cases hm
  refine ⟨F, α, δ, μ, rs, μ1, C, Ee, h1, fun vs F1 H1 e1 c1 q1 x dx hx hd ne => ?_⟩
  refine ⟨x, dx, H1, vs, F1, α, μ1, rs, ds, μ', by rw [List.append_nil], ?_, hx, hd, ne, rfl, c1, q1, h2, fun F2 H2 e2 c2 r2 => ⟨rfl, kk _ F2 H2 (e1.trans e2) c2 r2⟩⟩
  rw [List.append_nil, List.length_cons, q1.length]
  exact S.ar _ _ _ h2

/-- x op y, both of the class at C -/
def rBin (C : Addr) (sp : Sp) (E : XK) : R2 := fun x y H Q => ∃ a dx vs b dy ws, x = .ref a ∧ y = .ref b ∧ SlX.Slt H a C dx vs ∧ SlX.Slt H b C dy ws ∧ sp [x, y] H Q E
theorem op_bin {op : Operator} {CX : CXT} {sp : Sp} {E : XK} (hc : PySem.W.selfFirst X.K C = true) (hs : PySem.W.findIn X.K (.ref C) (PySem.dunder op.info.2) = some (some (.ref g))) (hf : PySem.W.isFn X.K (.ref g) = true) (F : FnR X.prog X.w X.K X.mg X.base CX n g sp)
    (hr : Room n X.A) (hx : Passes CX X E) : OpR X (binaryOp op) (rBin C sp E) := by
  intro pins s σ H x y v u Q I rx ry h
  obtain ⟨a, dx, vs, b, dy, ws, rfl, rfl, ha, hb, q⟩ := h
  cases (show v = Value.ref a from rx)
  cases (show u = Value.ref b from ry)
  obtain ⟨sl, od, _, J, _⟩ := SlX.slt_inst I ha
  obtain ⟨sl', od', _, J', _⟩ := SlX.slt_inst I hb
  obtain ⟨m, hF⟩ := I.fr
  refine PySem.W.binop_K hF I.ok.mod.kin J J'.type hc hs hf ?_
  refine wpAny_mono (wpAny_call (run_fnR (us := [.ref a, .ref b]) (vs := [.ref a, .ref b]) F hr hx I (.cons rfl (.cons rfl .nil)) q)) (fun w s' z => ?_) fun _ _ x => x
  obtain ⟨z', H', I', rz, qz⟩ := z
  exact SlX.cmpback rz ⟨z', H', I', rz, qz⟩
structure FO (P : Program) (w : World) (K : PySem.W.Frag) (mg : Str → Option Value) (base : Heap) (cl : Nat → Addr) (k c : Nat) (op : Operator) (m : MF) : Prop where
  sf : PySem.W.selfFirst K (cl c) = true
  ok : ∃ g, PySem.W.findIn K (.ref (cl c)) (PySem.dunder op.info.2) = some (some (.ref g)) ∧ PySem.W.isFn K (.ref g) = true ∧ FA P w K mg base cl k g 2 m
theorem FO.cx {op : Operator} (S : FO P w K mg base cl k c op mf) : FO P w K mg base cl k c op (callX mf) := by
  obtain ⟨s, g, h1, h2, h3⟩ := S
  exact ⟨s, g, h1, h2, h3.x⟩
@[simp] def mBin (c : Nat) (f : MF) (ma mb : ME) : ME := fun δ μ => match ma δ μ with
  | some (.dat (.ins c1 xs), μ1) => if c1 = c then match mb δ μ1 with
      | some (.dat (.ins c2 ys), μ2) => if c2 = c then f [.dat (.ins c1 xs), .dat (.ins c2 ys)] μ2 else none
      | _ => none
    else none
  | _ => none
theorem se_bin {op : Operator} (S : FO X.prog X.w X.K X.mg X.base cl k c op mf) (hr : Room j X.A) (hk : k ≤ j) (ha : SE X cl a ma) (hb : SE X cl b mb) : SE X cl (.BinOp a op b pos) (mBin c mf ma mb) := by
  obtain ⟨sf, g, h1, h2, h3⟩ := S
  refine PE.weak (pe_op (op_bin sf h1 h2 h3.raw (hr.mono hk) pass0) ha hb) fun σ H Q ⟨F, α, δ, μ, z, μ', C, Ee, hm, kk⟩ => ?_
  unfold mBin at hm
  split at hm
  · rename_i c1 xs μ1 e1
    split at hm
    · rename_i hc1
      split at hm
      · rename_i c2 ys μ2 e2
        split at hm
        · rename_i hc2
          subst hc1
          subst hc2
          refine ⟨F, α, δ, μ, _, _, C, Ee, e1, fun v F1 H1 v1 d1 q1 => ?_⟩
          refine ⟨F1, α, δ, μ1, _, _, d1, Ee.step v1, e2, fun u F2 H2 v2 d2 q2 => ?_⟩
          have q1' : Rep X.K cl F2 v (.ins c2 xs) := Rep.mono v2.ff q1
          have q2' : Rep X.K cl F2 u (.ins c2 ys) := q2
          have hsp : spM X.K cl 2 mf [v, u] H2 Q E0 := ⟨F2, α, μ2, [.dat (.ins c2 xs), .dat (.ins c2 ys)], z, μ', rfl, d2, .cons q1' (.cons q2' .nil), hm, fun v F3 H3 e3 c3 r3 => kk v F3 H3 ((v1.trans v2).trans e3) c3 (r3.back (v1.trans v2).dom)⟩
          cases q1' with
          | ins hs1 hq1 hr1 =>
            cases q2' with
            | ins hs2 hq2 hr2 => exact ⟨_, _, _, _, _, _, rfl, rfl, Same.slt d2.sub hs1, Same.slt d2.sub hs2, hsp⟩
        · cases hm
      · cases hm
    · cases hm
  · cases hm
end
end DL
set_option Elab.async false
set_option linter.all false
set_option maxRecDepth 100000
set_option maxHeartbeats 1000000

namespace DL
open PySem PySem.Spec PyProof.Rows L2
structure FAK (P : Program) (w : World) (K : PySem.W.Frag) (mg : Str → Option Value) (base : Heap) (cl : Nat → Addr) (k : Nat) (f : Addr) (n : Nat) (m : MF) (np : Nat) (ks : List Str) (is : List Nat) : Prop where
  ok : ∃ (fd : FuncData) (ps : List Str), FnOk P w K mg base CX0 k f fd ps (spM K cl n m) ∧ KBn K fd ps np ks (fun us ws => pick is (us ++ ws)) (fun us ws => pick is (us ++ ws))
  kp : PySem.W.keepIn K (.ref f) = true
  ar : ∀ rs μ z, m rs μ = some z → rs.length = n
structure FMK (P : Program) (w : World) (K : PySem.W.Frag) (mg : Str → Option Value) (base : Heap) (cl : Nat → Addr) (k c : Nat) (x : Str) (n : Nat) (m : MF) (np : Nat) (ks : List Str) (is : List Nat) : Prop where
  s : SlX.SCls K (cl c)
  ok : ∃ f, Meth K (cl c) x f ∧ FAK P w K mg base cl k f n m np ks is
structure FTK (P : Program) (w : World) (K : PySem.W.Frag) (mg : Str → Option Value) (base : Heap) (cl : Nat → Addr) (k : Nat) (x y : Str) (n : Nat) (m : MF) (np : Nat) (ks : List Str) (is : List Nat) : Prop where
  ok : ∃ C g, mg x = some (.ref C) ∧ SMet K C y g ∧ FAK P w K mg base cl k g n m np ks is
section
variable {P : Program} {w : World} {K : PySem.W.Frag} {mg : Str → Option Value} {base : Heap} {cl : Nat → Addr} {k n np c : Nat} {f : Addr} {mf : MF} {ks : List Str} {is : List Nat} {nm nn : Str}
theorem FAK.cx (S : FAK P w K mg base cl k f n mf np ks is) : FAK P w K mg base cl k f n (callX mf) np ks is := by
  obtain ⟨⟨fd, ps, F, h⟩, kp, ar⟩ := S
  exact ⟨⟨fd, ps, F.imp fun vs H Q E h => callX_sp h, h⟩, kp, callX_ar ar⟩
theorem FMK.x (S : FMK P w K mg base cl k c nm n mf np ks is) : FMK P w K mg base cl k c nm n (callX mf) np ks is := by
  obtain ⟨s, f, h1, h2⟩ := S
  exact ⟨s, f, h1, h2.cx⟩
theorem FTK.x (S : FTK P w K mg base cl k nm nn n mf np ks is) : FTK P w K mg base cl k nm nn n (callX mf) np ks is := by
  obtain ⟨C, g, h0, h1, h2⟩ := S
  exact ⟨C, g, h0, h1, h2.cx⟩
end
section
variable {X : Cx} {cl : Nat → Addr} {e o a b tg : Expr} {es : List Expr} {m mo ma mb : ME} {ms mk : MA} {pos p apos : Pos} {K : PySem.W.Frag} {f g C : Addr} {n np nk k j c : Nat} {mf : MF} {ks : List Str} {is : List Nat} {kws : List Keyword} {nm y : Str} {CX : CXT} {sp : Sp} {E : XK} {to : TE} {t tk : TA}
/-- o.y(e, .., k = v, ..): np values behind o -/
def tMethK (C : Addr) (np nk : Nat) (sp : Sp) (gV : List V → List V → List V) (E : XK) (to : TE) (t tk : TA) : TE := fun σ H Q => to σ H fun z H1 => ∃ a dx vs, z = .ref a ∧ SlX.Slt H1 a C dx vs ∧ t σ H1 fun ws H2 => tk σ H2 fun zs H3 => (z :: ws).length = np ∧ zs.length = nk ∧ sp (gV (z :: ws) zs) H3 Q E
theorem pe_methK0 {pl : Sem Bool} {fd : FuncData} {ps : List Str} {gg : List Value → List Value → List Value} {gV : List V → List V → List V} (ho : PE X o to) (c : SlX.SCls X.K C) (hm : Meth X.K C y g) (F : FnOk X.prog X.w X.K X.mg X.base CX k g fd ps sp) (hr : Room k X.A) (hb : KBn X.K fd ps 1 ks gg gV) (hx : Passes CX X E) (hkw : PK X kws tk)
    (hall : (backToKw pos (keywordEach kws X.env)).all (·.1.isSome) = true := by rfl) (hks : (backToKw pos (keywordEach kws X.env)).filterMap (·.1) = ks := by rfl)
    (hpl : ((backTo pos (starEach [] X.env)).any (·.1) || (backToKw pos (keywordEach kws X.env)).any (·.1.isNone)) = false := by rfl)
    (ht : eval (.Call (.Attribute o y apos) [] kws pos) X.env = (do
      let ov ← eval o X.env
      standAt apos.atName
      let (f, first) ← holding [ov] (getMethod ov y pl)
      callWith pos f first (backTo pos (starEach [] X.env)) (backToKw pos (keywordEach kws X.env))) := by rfl) :
    PE X (.Call (.Attribute o y apos) [] kws pos) (tMethK C 1 ks.length sp gV E to tNil tk) := by
  refine ⟨fun pins s σ H Q I h => ?_⟩
  refine PySem.W.methodCall_KW (pl := pl) (thn (ho.run pins s σ H _ I h) fun u s1 ⟨z, H1, I1, rx, a, dx, vs, ex, hsl, q⟩ => ?_) ht
  subst ex
  obtain rfl : u = Value.ref a := rx
  refine SlX.getmethsl_ok I1 hsl c hm ?_
  refine PySem.W.callWith_KW0 (first := [.ref a]) (h₀ := X.base) I.ok.mod.kin hm.kp hall ?_ hpl
  refine thn (hkw.run pos pins s1 σ H1 _ I1 q) fun ws s2 ⟨zs, H2, I2, rz, l1, l2, q2⟩ => ⟨I2.kIn, ?_⟩
  rw [hks]
  exact run_fnN (us := [.ref a]) (vs := [.ref a]) F hr hb hx I2 (.cons rfl .nil) rz l1 l2 q2
theorem pe_methK {pl : Sem Bool} {fd : FuncData} {ps : List Str} {gg : List Value → List Value → List Value} {gV : List V → List V → List V} (ho : PE X o to) (c : SlX.SCls X.K C) (hm : Meth X.K C y g) (F : FnOk X.prog X.w X.K X.mg X.base CX k g fd ps sp) (hr : Room k X.A) (hb : KBn X.K fd ps np ks gg gV) (hx : Passes CX X E) (ha : PA X (e :: es) t) (hkw : PK X kws tk)
    (hall : (backToKw pos (keywordEach kws X.env)).all (·.1.isSome) = true := by rfl) (hks : (backToKw pos (keywordEach kws X.env)).filterMap (·.1) = ks := by rfl)
    (he : starEach (e :: es) X.env = (false, eval e X.env) :: starEach es X.env := by rfl)
    (hpl : ((backTo pos (starEach (e :: es) X.env)).any (·.1) || (backToKw pos (keywordEach kws X.env)).any (·.1.isNone)) = false := by rfl)
    (ht : eval (.Call (.Attribute o y apos) (e :: es) kws pos) X.env = (do
      let ov ← eval o X.env
      standAt apos.atName
      let (f, first) ← holding [ov] (getMethod ov y pl)
      callWith pos f first (backTo pos (starEach (e :: es) X.env)) (backToKw pos (keywordEach kws X.env))) := by rfl) :
    PE X (.Call (.Attribute o y apos) (e :: es) kws pos) (tMethK C np ks.length sp gV E to t tk) := by
  refine ⟨fun pins s σ H Q I h => ?_⟩
  refine PySem.W.methodCall_KW (pl := pl) (thn (ho.run pins s σ H _ I h) fun u s1 ⟨z, H1, I1, rx, a, dx, vs, ex, hsl, q⟩ => ?_) ht
  subst ex
  obtain rfl : u = Value.ref a := rx
  refine SlX.getmethsl_ok I1 hsl c hm ?_
  refine PySem.W.callWith_KW (first := [.ref a]) (h₀ := X.base) I.ok.mod.kin hm.kp hall (thn (ha.run pos pins s1 σ H1 _ I1 q) fun us s2 ⟨ws, H2, I2, r, q2⟩ => ?_) hpl he
  refine thn (hkw.run pos pins s2 σ H2 _ I2 q2) fun us2 s3 ⟨zs, H3, I3, rz, l1, l2, q3⟩ => ⟨I3.kIn, ?_⟩
  rw [hks]
  exact run_fnN (us := .ref a :: us) (vs := .ref a :: ws) F hr hb hx I3 (.cons rfl r) rz l1 l2 q3
@[simp] def mMethK (c : Nat) (f : MF) (np nk : Nat) (is : List Nat) (mo : ME) (ms mk : MA) : ME := fun δ μ => match mo δ μ with
  | some (.dat (.ins c' xs), μ1) => if c' = c then match ms δ μ1 with
      | some (rs, μ2) => match mk δ μ2 with
        | some (zs, μ3) => if rs.length + 1 = np ∧ zs.length = nk then f (pick is (.dat (.ins c' xs) :: rs ++ zs)) μ3 else none
        | none => none
      | none => none
    else none
  | _ => none
theorem ArgRs.step {F F' H H' : Hp} {α α' : List Addr} {vs : List V} {rs : List R} (h : ArgRs K cl F α vs rs) (e : Evo F α H F' α' H') : ArgRs K cl F' α' vs rs := by
  induction h with
  | nil => exact .nil
  | cons r q ih => exact .cons (r.step e) ih
theorem methK_imp {c : Nat} (ar : ∀ rs μ z, mf rs μ = some z → rs.length = n) : ∀ σ H Q, tm K cl (mMethK c mf np nk is mo ms mk) σ H Q → tMethK (cl c) np nk (spM K cl n mf) (fun us ws => pick is (us ++ ws)) E0 (tm K cl mo) (tma K cl ms) (tma K cl mk) σ H Q := fun σ H Q ⟨F, α, δ, μ, z, μ', C, Ee, hm, k⟩ => by
  unfold mMethK at hm
  split at hm
  · rename_i c' xs μ1 h1
    split at hm
    · rename_i hc
      split at hm
      · rename_i rs μ2 h2
        split at hm
        · rename_i zs μ3 h3
          split at hm
          · rename_i hl
            subst hc
            refine ⟨F, α, δ, μ, _, _, C, Ee, h1, fun v F1 H1 e1 c1 q1 => ?_⟩
            cases q1 with
            | ins hs hq hr =>
              refine ⟨_, _, _, rfl, Same.slt c1.sub hs, F1, α, δ, μ1, rs, μ2, c1, Ee.step e1, h2, fun vs F2 H2 e2 c2 q2 => ?_⟩
              refine ⟨F2, α, δ, μ2, zs, μ3, c2, (Ee.step e1).step e2, h3, fun us F3 H3 e3 c3 q3 => ⟨by rw [List.length_cons, q2.length]; exact hl.1, by rw [q3.length]; exact hl.2, ?_⟩⟩
              have r0 : ArgR K cl F3 α _ (.dat (.ins c' xs)) := Rep.mono e3.ff (Rep.mono e2.ff (.ins hs hq hr))
              have q4 := ((ArgRs.cons r0 (q2.step e3)).append q3).pick is
              exact ⟨F3, α, μ3, _, z, μ', by rw [q4.length, ar _ _ _ hm], c3, q4, hm, fun v F4 H4 e4 c4 r4 => k v F4 H4 (((e1.trans e2).trans e3).trans e4) c4 (r4.back ((e1.trans e2).trans e3).dom)⟩
          · cases hm
        · cases hm
      · cases hm
    · cases hm
  · cases hm
theorem se_methK0 {pl : Sem Bool} (S : FMK X.prog X.w X.K X.mg X.base cl k c y n mf 1 ks is) (hr : Room j X.A) (hk : k ≤ j) (ho : SE X cl o mo) (hkw : SK X cl kws mk) (hnk : ks.length = nk := by rfl)
    (hall : (backToKw pos (keywordEach kws X.env)).all (·.1.isSome) = true := by rfl) (hks : (backToKw pos (keywordEach kws X.env)).filterMap (·.1) = ks := by rfl)
    (hpl : ((backTo pos (starEach [] X.env)).any (·.1) || (backToKw pos (keywordEach kws X.env)).any (·.1.isNone)) = false := by rfl)
    (ht : eval (.Call (.Attribute o y apos) [] kws pos) X.env = (do
      let ov ← eval o X.env
      standAt apos.atName
      let (f, first) ← holding [ov] (getMethod ov y pl)
      callWith pos f first (backTo pos (starEach [] X.env)) (backToKw pos (keywordEach kws X.env))) := by rfl) :
    SE X cl (.Call (.Attribute o y apos) [] kws pos) (mMethK c mf 1 nk is mo mNil mk) := by
  subst hnk
  obtain ⟨s, f, h1, ⟨fd, ps, F, hb⟩, hkp, ar⟩ := S
  refine PE.weak (pe_methK0 (pl := pl) ho s h1 F (hr.mono hk) hb pass0 hkw hall hks hpl ht) fun σ H Q h => ?_
  obtain ⟨F, α, δ, μ, z, μ', C, Ee, h1, h2⟩ := methK_imp ar σ H Q h
  refine ⟨F, α, δ, μ, z, μ', C, Ee, h1, fun v F1 H1 e1 c1 q1 => ?_⟩
  obtain ⟨a, dx, vs, h3, h4, F2, α2, δ2, μ2, rs, μ3, C2, E2, h5, h6⟩ := h2 v F1 H1 e1 c1 q1
  cases h5
  exact ⟨a, dx, vs, h3, h4, h6 [] F2 H1 Evo.refl C2 .nil⟩
theorem se_methK {pl : Sem Bool} (S : FMK X.prog X.w X.K X.mg X.base cl k c y n mf np ks is) (hr : Room j X.A) (hk : k ≤ j) (ho : SE X cl o mo) (ha : SA X cl (e :: es) ms) (hkw : SK X cl kws mk) (hnk : ks.length = nk := by rfl)
    (hall : (backToKw pos (keywordEach kws X.env)).all (·.1.isSome) = true := by rfl) (hks : (backToKw pos (keywordEach kws X.env)).filterMap (·.1) = ks := by rfl)
    (he : starEach (e :: es) X.env = (false, eval e X.env) :: starEach es X.env := by rfl)
    (hpl : ((backTo pos (starEach (e :: es) X.env)).any (·.1) || (backToKw pos (keywordEach kws X.env)).any (·.1.isNone)) = false := by rfl)
    (ht : eval (.Call (.Attribute o y apos) (e :: es) kws pos) X.env = (do
      let ov ← eval o X.env
      standAt apos.atName
      let (f, first) ← holding [ov] (getMethod ov y pl)
      callWith pos f first (backTo pos (starEach (e :: es) X.env)) (backToKw pos (keywordEach kws X.env))) := by rfl) :
    SE X cl (.Call (.Attribute o y apos) (e :: es) kws pos) (mMethK c mf np nk is mo ms mk) := by
  subst hnk
  obtain ⟨s, f, h1, ⟨fd, ps, F, hb⟩, hkp, ar⟩ := S
  exact PE.weak (pe_methK (pl := pl) ho s h1 F (hr.mono hk) hb pass0 ha hkw hall hks he hpl ht) (methK_imp ar)
/-- C.y(k = v, ..) -/
theorem pe_staticK0 {pl : Sem Bool} {fd : FuncData} {ps : List Str} {gg : List Value → List Value → List Value} {gV : List V → List V → List V} (S : SMet X.K C y g) (hg : Gl X nm) (hm : X.mg nm = some (.ref C)) (hkp : PySem.W.keepIn X.K (.ref g) = true) (F : FnOk X.prog X.w X.K X.mg X.base CX k g fd ps sp) (hr : Room k X.A) (hb : KBn X.K fd ps 0 ks gg gV) (hx : Passes CX X E) (hkw : PK X kws tk) (hdb : (nm == ("__debug__" : Str)) = false := by decide)
    (hall : (backToKw pos (keywordEach kws X.env)).all (·.1.isSome) = true := by rfl) (hks : (backToKw pos (keywordEach kws X.env)).filterMap (·.1) = ks := by rfl)
    (hpl : ((backTo pos (starEach [] X.env)).any (·.1) || (backToKw pos (keywordEach kws X.env)).any (·.1.isNone)) = false := by rfl)
    (ht : eval (.Call (.Attribute (.Name nm p) y apos) [] kws pos) X.env = (do
      let ov ← eval (.Name nm p) X.env
      standAt apos.atName
      let (f, first) ← holding [ov] (getMethod ov y pl)
      callWith pos f first (backTo pos (starEach [] X.env)) (backToKw pos (keywordEach kws X.env))) := by rfl) :
    PE X (.Call (.Attribute (.Name nm p) y apos) [] kws pos) (tCallN 0 ks.length sp gV E tNil tk) := by
  refine ⟨fun pins s σ H Q I h => ?_⟩
  refine PySem.W.methodCall_KW (pl := pl) (thn ((pe_glob (v := .ref C) (pos := p) hg hm rfl hdb).run pins s σ H (fun z H1 => z = .ref C ∧ H1 = H) I ⟨rfl, rfl⟩) fun u s1 ⟨z, H1, I1, rx, ez, eH⟩ => ?_) ht
  subst ez
  subst eH
  obtain rfl : u = Value.ref C := rx
  refine getmethst_ok I1 S fun s2 I2 => ?_
  refine PySem.W.callWith_KW0 (first := []) (h₀ := X.base) I.ok.mod.kin hkp hall ?_ hpl
  refine thn (hkw.run pos pins s2 σ H1 _ I2 h) fun ws s3 ⟨zs, H3, I3, rz, l1, l2, q3⟩ => ⟨I3.kIn, ?_⟩
  rw [hks]
  exact run_fnN (us := []) (vs := []) F hr hb hx I3 .nil rz l1 l2 q3
theorem pe_staticK {pl : Sem Bool} {fd : FuncData} {ps : List Str} {gg : List Value → List Value → List Value} {gV : List V → List V → List V} (S : SMet X.K C y g) (hg : Gl X nm) (hm : X.mg nm = some (.ref C)) (hkp : PySem.W.keepIn X.K (.ref g) = true) (F : FnOk X.prog X.w X.K X.mg X.base CX k g fd ps sp) (hr : Room k X.A) (hb : KBn X.K fd ps np ks gg gV) (hx : Passes CX X E) (ha : PA X (e :: es) t) (hkw : PK X kws tk) (hdb : (nm == ("__debug__" : Str)) = false := by decide)
    (hall : (backToKw pos (keywordEach kws X.env)).all (·.1.isSome) = true := by rfl) (hks : (backToKw pos (keywordEach kws X.env)).filterMap (·.1) = ks := by rfl)
    (he : starEach (e :: es) X.env = (false, eval e X.env) :: starEach es X.env := by rfl)
    (hpl : ((backTo pos (starEach (e :: es) X.env)).any (·.1) || (backToKw pos (keywordEach kws X.env)).any (·.1.isNone)) = false := by rfl)
    (ht : eval (.Call (.Attribute (.Name nm p) y apos) (e :: es) kws pos) X.env = (do
      let ov ← eval (.Name nm p) X.env
      standAt apos.atName
      let (f, first) ← holding [ov] (getMethod ov y pl)
      callWith pos f first (backTo pos (starEach (e :: es) X.env)) (backToKw pos (keywordEach kws X.env))) := by rfl) :
    PE X (.Call (.Attribute (.Name nm p) y apos) (e :: es) kws pos) (tCallN np ks.length sp gV E t tk) := by
  refine ⟨fun pins s σ H Q I h => ?_⟩
  refine PySem.W.methodCall_KW (pl := pl) (thn ((pe_glob (v := .ref C) (pos := p) hg hm rfl hdb).run pins s σ H (fun z H1 => z = .ref C ∧ H1 = H) I ⟨rfl, rfl⟩) fun u s1 ⟨z, H1, I1, rx, ez, eH⟩ => ?_) ht
  subst ez
  subst eH
  obtain rfl : u = Value.ref C := rx
  refine getmethst_ok I1 S fun s2 I2 => ?_
  refine PySem.W.callWith_KW (first := []) (h₀ := X.base) I.ok.mod.kin hkp hall (thn (ha.run pos pins s2 σ H1 _ I2 h) fun us s3 ⟨ws, H2, I3, r, q2⟩ => ?_) hpl he
  refine thn (hkw.run pos pins s3 σ H2 _ I3 q2) fun us2 s4 ⟨zs, H3, I4, rz, l1, l2, q3⟩ => ⟨I4.kIn, ?_⟩
  rw [hks]
  exact run_fnN F hr hb hx I4 r rz l1 l2 q3
theorem se_staticK0 {pl : Sem Bool} (S : FTK X.prog X.w X.K X.mg X.base cl k nm y n mf 0 ks is) (hr : Room j X.A) (hk : k ≤ j) (hkw : SK X cl kws mk) (hnk : ks.length = nk := by rfl) (hg : Gl X nm := by rfl) (hdb : (nm == ("__debug__" : Str)) = false := by decide)
    (hall : (backToKw pos (keywordEach kws X.env)).all (·.1.isSome) = true := by rfl) (hks : (backToKw pos (keywordEach kws X.env)).filterMap (·.1) = ks := by rfl)
    (hpl : ((backTo pos (starEach [] X.env)).any (·.1) || (backToKw pos (keywordEach kws X.env)).any (·.1.isNone)) = false := by rfl)
    (ht : eval (.Call (.Attribute (.Name nm p) y apos) [] kws pos) X.env = (do
      let ov ← eval (.Name nm p) X.env
      standAt apos.atName
      let (f, first) ← holding [ov] (getMethod ov y pl)
      callWith pos f first (backTo pos (starEach [] X.env)) (backToKw pos (keywordEach kws X.env))) := by rfl) :
    SE X cl (.Call (.Attribute (.Name nm p) y apos) [] kws pos) (mCallK mf 0 nk is mNil mk) := by
  subst hnk
  obtain ⟨C, g, h0, h1, ⟨fd, ps, F, hb⟩, hkp, ar⟩ := S
  refine PE.weak (pe_staticK0 (pl := pl) h1 hg h0 hkp F (hr.mono hk) hb pass0 hkw hdb hall hks hpl ht) fun σ H Q h => ?_
  obtain ⟨F, α, δ, μ, rs, μ1, C, Ee, h1, h2⟩ := callK_imp ar σ H Q h
  cases h1
  exact h2 [] F H Evo.refl C .nil
theorem se_staticK {pl : Sem Bool} (S : FTK X.prog X.w X.K X.mg X.base cl k nm y n mf np ks is) (hr : Room j X.A) (hk : k ≤ j) (ha : SA X cl (e :: es) ms) (hkw : SK X cl kws mk) (hnk : ks.length = nk := by rfl) (hg : Gl X nm := by rfl) (hdb : (nm == ("__debug__" : Str)) = false := by decide)
    (hall : (backToKw pos (keywordEach kws X.env)).all (·.1.isSome) = true := by rfl) (hks : (backToKw pos (keywordEach kws X.env)).filterMap (·.1) = ks := by rfl)
    (he : starEach (e :: es) X.env = (false, eval e X.env) :: starEach es X.env := by rfl)
    (hpl : ((backTo pos (starEach (e :: es) X.env)).any (·.1) || (backToKw pos (keywordEach kws X.env)).any (·.1.isNone)) = false := by rfl)
    (ht : eval (.Call (.Attribute (.Name nm p) y apos) (e :: es) kws pos) X.env = (do
      let ov ← eval (.Name nm p) X.env
      standAt apos.atName
      let (f, first) ← holding [ov] (getMethod ov y pl)
      callWith pos f first (backTo pos (starEach (e :: es) X.env)) (backToKw pos (keywordEach kws X.env))) := by rfl) :
    SE X cl (.Call (.Attribute (.Name nm p) y apos) (e :: es) kws pos) (mCallK mf np nk is ms mk) := by
  subst hnk
  obtain ⟨C, g, h0, h1, ⟨fd, ps, F, hb⟩, hkp, ar⟩ := S
  exact PE.weak (pe_staticK (pl := pl) h1 hg h0 hkp F (hr.mono hk) hb pass0 ha hkw hdb hall hks he hpl ht) (callK_imp ar)
end
end DL
set_option Elab.async false
set_option linter.all false
set_option maxRecDepth 100000
set_option maxHeartbeats 1000000

namespace DL
open PySem PySem.Spec PyProof.Rows L2
abbrev FunX (K : PySem.W.Frag) (x qual : Str) (st : Stmt) (dvs : List V) (f : Addr) (fd : FuncData) : Prop := FunD K x qual (defArgs st) (defBody st) (defScope st) dvs [] f fd
theorem funx_mk {K : PySem.W.Frag} {x qual : Str} {st : Stmt} {f T : Addr} {oc : Value} {od an : Option Addr} {osl : Array (Option Value)} {kV doc pm cdv ct : Value} {o : Obj} {its : List Value} {n : Nat} {dvs : List V} (l : K.lookup f = some ⟨oc, od, .func (PySem.W.fnOf x qual (defArgs st) (defBody st) (defScope st) (.ref T) kV doc pm an cdv ct), osl⟩)
    (c : PySem.W.codeIn K cdv qual = true) (k : PySem.W.keepIn K (.ref f) = true) (lT : K.lookup T = some o) (oT : o.data = .seq its.toArray n) (hv : Vals dvs its) (hne : dvs ≠ []) : FunX K x qual st dvs f (PySem.W.fnOf x qual (defArgs st) (defBody st) (defScope st) (.ref T) kV doc pm an cdv ct) :=
  ⟨⟨oc, od, .ref T, kV, doc, pm, an, cdv, ct, osl, rfl, l, c, .inr ⟨hne, T, o, its, n, rfl, lT, oT, hv⟩, .inl rfl⟩, k⟩
section
variable {K : PySem.W.Frag} {cl : Nat → Addr}
theorem def_okD {P : Program} {w : World} {mg : Str → Option Value} {base : Heap} {x qual : Str} {st : Stmt} {dvs : List V} {f : Addr} {fd : FuncData} {N ps : List Str} {k n : Nat} {body : MS} (F : FunX K x qual st dvs f fd) (S : FnScope N ps (defScope st)) (hn : ps.length = n)
    (hb : ∀ (cdv : Value) (A : Around) (outer : List Env) (s : Shared) (H : Hp) (E : XK), Room k (A.deeper (envOfC qual (defScope st) s.heap.objs.size f cdv)) →
      SSs (cxOf CX0 P w K mg base N qual (defScope st) f cdv A outer s H E).nox cl (defBody st) body) : FnOk P w K mg base CX0 (k + 1) f fd ps (spM K cl n (mDef n N.length body)) := by
  obtain ⟨oc, od, dV, kV, doc, pm, an, cdv, ct, osl, rfl, lk, hcd, _, _⟩ := F.ex
  have F' : ∀ {sp : Sp}, (∀ vs H Q E, sp vs H Q E → vs.length = ps.length) → (∀ (cdv : Value) (A : Around) (outer : List Env) (s : Shared) (H : Hp) (vs : List V) (Q : VK) (E : XK), Room k (A.deeper (envOfC qual (defScope st) s.heap.objs.size f cdv)) → sp vs H Q E →
      ∃ t, PSs (cxOf CX0 P w K mg base N qual (defScope st) f cdv A outer s H E).nox (defBody st) t ∧ t { nx := fun _ H' => Q .non H', rt := Q } (start N vs) H) → FnOk P w K mg base CX0 (k + 1) f (PySem.W.fnOf x qual (defArgs st) (defBody st) (defScope st) dV kV doc pm an cdv ct) ps sp := fun len hbody => by
    refine fn_of lk hcd S len fun A outer s H vs Q E hr hsp => ?_
    obtain ⟨t, h, q⟩ := hbody cdv A outer s H vs Q E hr hsp
    exact ⟨t, h.nox, q⟩
  refine F' (fun vs H Q E h => ?_) (fun cdv A outer s H vs Q E hr h => ⟨_, hb cdv A outer s H E hr, def_core h⟩)
  obtain ⟨_, _, _, _, _, _, h, _⟩ := h
  rw [h, hn]
end
section
variable {X : Cx} {cl : Nat → Addr} {e o a b tg : Expr} {es : List Expr} {m mo ma mb : ME} {ms mk : MA} {pos p apos : Pos} {K : PySem.W.Frag} {f g C : Addr} {n np nk k j c : Nat} {mf : MF} {nm y : Str} {P : Program} {w : World} {mg : Str → Option Value} {base : Heap}

structure FC (P : Program) (w : World) (K : PySem.W.Frag) (mg : Str → Option Value) (base : Heap) (cl : Nat → Addr) (k c : Nat) (n : Nat) (m : MF) : Prop where
  ok : ∃ g, StX.CallO K (cl c) g ∧ FA P w K mg base cl k g n m
theorem FC.x (S : FC P w K mg base cl k c n mf) : FC P w K mg base cl k c n (callX mf) := by
  obtain ⟨g, h1, h2⟩ := S
  exact ⟨g, h1, h2.x⟩
theorem se_callO (S : FC X.prog X.w X.K X.mg X.base cl k c n mf) (hr : Room j X.A) (hk : k ≤ j) (ho : SE X cl o mo) (ha : SA X cl (e :: es) ms)
    (ht : eval (.Call o (e :: es) [] pos) X.env = (do callWith pos (← eval o X.env) [] (backTo pos (starEach (e :: es) X.env)) (backToKw pos (keywordEach [] X.env))) := by rfl)
    (he : starEach (e :: es) X.env = (false, eval e X.env) :: starEach es X.env := by rfl) (hpl : (backTo pos (starEach es X.env)).any (·.1) = false := by rfl) : SE X cl (.Call o (e :: es) [] pos) (mMeth c mf mo ms) := by
  obtain ⟨g, h1, h2⟩ := S
  refine PE.weak (StX.pe_callO ho h1 h2.raw (hr.mono hk) pass0 ha ht he hpl) fun σ H Q h => ?_
  obtain ⟨F, α, δ, μ, z, μ', C, Ee, hm, kk⟩ := h
  unfold mMeth at hm
  split at hm
  · rename_i c' xs μ1 g1
    split at hm
    · rename_i hc
      split at hm
      · rename_i rs μ2 h2'
        subst hc
        refine ⟨F, α, δ, μ, _, _, C, Ee, g1, fun v F1 H1 e1 c1 q1 => ?_⟩
        cases q1 with
        | ins hs hq hr =>
          refine ⟨_, rfl, F1, α, δ, μ1, rs, μ2, c1, Ee.step e1, h2', fun vs F2 H2 e2 c2 q2 => ⟨.inl ⟨_, _, Same.slt c2.sub (Same.slt e2.ff hs)⟩, ?_⟩⟩
          have r0 : ArgR X.K cl F2 α _ (.dat (.ins c' xs)) := Rep.mono e2.ff (.ins hs hq hr)
          have hl := q2.length
          refine ⟨F2, α, μ2, .dat (.ins c' xs) :: rs, z, μ', ?_, c2, .cons r0 q2, hm, fun v F3 H3 e3 c3 r3 => kk v F3 H3 ((e1.trans e2).trans e3) c3 (r3.back (e1.trans e2).dom)⟩
          rw [List.length_cons, hl]
          exact h2.ar _ _ _ hm
      · cases hm
    · cases hm
  · cases hm

structure IsC (K : PySem.W.Frag) (cl : Nat → Addr) (c : Nat) : Prop where
  s : SlX.SCls K (cl c)
  i : SlX.SIsi K (cl c)
  bool : PySem.W.kitOne K (.ref (cl c)) (.type "bool") = some false
  int : PySem.W.kitOne K (.ref (cl c)) (.type "int") = some false
  str : PySem.W.kitOne K (.ref (cl c)) (.type "str") = some false
  tuple : PySem.W.kitOne K (.ref (cl c)) (.type "tuple") = some false
  list : PySem.W.kitOne K (.ref (cl c)) (.type "list") = some false
theorem IsC.kit (h : IsC K cl c) {T : String} (hT : BT T) : PySem.W.kitOne K (.ref (cl c)) (.type T) = some false := by
  rcases hT with rfl | rfl | rfl | rfl | rfl
  · exact h.bool
  · exact h.int
  · exact h.str
  · exact h.tuple
  · exact h.list
def rIsiA (K : PySem.W.Frag) (u : Value) : List V → Hp → VK → Prop := fun xs H Q => rIsi K xs H Q ∨ SlX.rIsiSl K u xs H Q
theorem call_isiA (u : Value) : CallR X (.builtin "isinstance") (rIsiA X.K u) := by
  intro pins s σ H xs us Q I r h
  rcases h with h | h
  · exact call_isi pins s σ H xs us Q I r h
  · exact SlX.call_isiSl u pins s σ H xs us Q I r h
@[simp] def mIsiN (n : Nat) (T : String) (m : ME) : ME := fun δ μ => match m δ μ with
  | none => none
  | some (.dat (.ins c _), μ1) => if c < n then some (.dat (.bl false), μ1) else none
  | some (r, μ1) => match tag μ1 r with
    | some t => some (.dat (.bl (isB t T)), μ1)
    | none => none
theorem se_isiN {T : String} {Ts : Str} {pT : Pos} (hI : ∀ c, c < n → IsC X.K cl c) (hm : X.mg "isinstance" = none) (hmT : X.mg Ts = none) (hT : BT T) (hvT : bootBuiltins Ts = some (.type T)) (he : SE X cl a m) (hg : Gl X "isinstance" := by rfl) (hgT : Gl X Ts := by rfl) (hn : Ts ≠ "__name__" := by decide) (hd : (Ts == ("__debug__" : Str)) = false := by decide)
    (hs : starEach (a :: [.Name Ts pT]) X.env = (false, eval a X.env) :: starEach [.Name Ts pT] X.env := by rfl) (hs2 : starEach (.Name Ts pT :: []) X.env = (false, eval (.Name Ts pT) X.env) :: starEach [] X.env := by rfl) (hpl : (backTo pos (starEach [.Name Ts pT] X.env)).any (·.1) = false := by rfl) :
    SE X cl (.Call (.Name "isinstance" p) [a, .Name Ts pT] [] pos) (mIsiN n T m) := by
  refine PE.weak (pe_callB (call_isiA (.type T)) hg hm (by decide +kernel) (pa_cons he (pa_cons (pe_bltn (v := .ty T) hgT hmT hvT rfl hn hd) pa_nil hs2) hs) (he := hs) (hpl := hpl)) fun σ H Q ⟨F, α, δ, μ, z, μ', C, Ee, hm, k⟩ => ?_
  unfold mIsiN at hm
  split at hm
  · cases hm
  · rename_i c' xs μ1 h1
    split at hm
    · rename_i hc
      cases hm
      refine ⟨F, α, δ, μ, _, μ', C, Ee, h1, fun v F1 H1 e1 c1 q1 => ?_⟩
      cases q1 with
      | ins hsl hq hr => exact .inr ⟨_, _, _, _, .ty T, false, rfl, rfl, fun w hw => hw, Same.slt c1.sub hsl, (hI c' hc).s, (hI c' hc).i, (hI c' hc).kit hT, k _ F1 H1 e1 c1 (.bl _)⟩
    · cases hm
  · rename_i r1 μ1 _ h1
    split at hm
    · rename_i t h2
      cases hm
      refine ⟨F, α, δ, μ, r1, μ', C, Ee, h1, fun v F1 H1 e1 c1 q1 => ?_⟩
      obtain ⟨q2, q3⟩ := tag_ok c1 q1 h2
      exact .inl ⟨v, .ty T, .type t, .type T, _, rfl, .ty T, q2, kit_isB q3 hT, k _ F1 H1 e1 c1 (.bl _)⟩
    · cases hm
@[simp] def mIsiA (T : String) (m : ME) : ME := fun δ μ => match m δ μ with
  | none => none
  | some (.dat (.ins _ _), μ1) => some (.dat (.bl false), μ1)
  | some (r, μ1) => match tag μ1 r with
    | some t => some (.dat (.bl (isB t T)), μ1)
    | none => none
theorem se_isiA {T : String} {Ts : Str} {pT : Pos} (hI : ∀ c, IsC X.K cl c) (hm : X.mg "isinstance" = none) (hmT : X.mg Ts = none) (hT : BT T) (hvT : bootBuiltins Ts = some (.type T)) (he : SE X cl a m) (hg : Gl X "isinstance" := by rfl) (hgT : Gl X Ts := by rfl) (hn : Ts ≠ "__name__" := by decide) (hd : (Ts == ("__debug__" : Str)) = false := by decide)
    (hs : starEach (a :: [.Name Ts pT]) X.env = (false, eval a X.env) :: starEach [.Name Ts pT] X.env := by rfl) (hs2 : starEach (.Name Ts pT :: []) X.env = (false, eval (.Name Ts pT) X.env) :: starEach [] X.env := by rfl) (hpl : (backTo pos (starEach [.Name Ts pT] X.env)).any (·.1) = false := by rfl) :
    SE X cl (.Call (.Name "isinstance" p) [a, .Name Ts pT] [] pos) (mIsiA T m) := by
  refine PE.weak (pe_callB (call_isiA (.type T)) hg hm (by decide +kernel) (pa_cons he (pa_cons (pe_bltn (v := .ty T) hgT hmT hvT rfl hn hd) pa_nil hs2) hs) (he := hs) (hpl := hpl)) fun σ H Q ⟨F, α, δ, μ, z, μ', C, Ee, hm, k⟩ => ?_
  unfold mIsiA at hm
  split at hm
  · cases hm
  · rename_i c' xs μ1 h1
    cases hm
    refine ⟨F, α, δ, μ, _, μ', C, Ee, h1, fun v F1 H1 e1 c1 q1 => ?_⟩
    cases q1 with
    | ins hsl hq hr => exact .inr ⟨_, _, _, _, .ty T, false, rfl, rfl, fun w hw => hw, Same.slt c1.sub hsl, (hI c').s, (hI c').i, (hI c').kit hT, k _ F1 H1 e1 c1 (.bl _)⟩
  · rename_i r1 μ1 _ h1
    split at hm
    · rename_i t h2
      cases hm
      refine ⟨F, α, δ, μ, r1, μ', C, Ee, h1, fun v F1 H1 e1 c1 q1 => ?_⟩
      obtain ⟨q2, q3⟩ := tag_ok c1 q1 h2
      exact .inl ⟨v, .ty T, .type t, .type T, _, rfl, .ty T, q2, kit_isB q3 hT, k _ F1 H1 e1 c1 (.bl _)⟩
    · cases hm
/-- isinstance(x, C) -/
structure IsO (K : PySem.W.Frag) (mg : Str → Option Value) (cl : Nat → Addr) (n : Nat) (nm : Str) (c' : Nat) : Prop where
  m : mg nm = some (.ref (cl c'))
  s : ∀ c, c < n → SlX.SCls K (cl c) ∧ SlX.SIsi K (cl c) ∧ PySem.W.kitOne K (.ref (cl c)) (.ref (cl c')) = some (c == c')
  non : PySem.W.kitOne K (.type "NoneType") (.ref (cl c')) = some false
  bool : PySem.W.kitOne K (.type "bool") (.ref (cl c')) = some false
  int : PySem.W.kitOne K (.type "int") (.ref (cl c')) = some false
  str : PySem.W.kitOne K (.type "str") (.ref (cl c')) = some false
  tuple : PySem.W.kitOne K (.type "tuple") (.ref (cl c')) = some false
  list : PySem.W.kitOne K (.type "list") (.ref (cl c')) = some false
@[simp] def mIsiO (n c' : Nat) (m : ME) : ME := fun δ μ => match m δ μ with
  | none => none
  | some (.dat (.ins c _), μ1) => if c < n then some (.dat (.bl (c == c')), μ1) else none
  | some (r, μ1) => match tag μ1 r with
    | some t => some (.dat (.bl false), μ1)
    | none => none
theorem se_isiO {c' : Nat} {pT : Pos} (hI : IsO X.K X.mg cl n nm c') (hm : X.mg "isinstance" = none) (he : SE X cl a m) (hg : Gl X "isinstance" := by rfl) (hgT : Gl X nm := by rfl) (hd : (nm == ("__debug__" : Str)) = false := by decide)
    (hs : starEach (a :: [.Name nm pT]) X.env = (false, eval a X.env) :: starEach [.Name nm pT] X.env := by rfl) (hs2 : starEach (.Name nm pT :: []) X.env = (false, eval (.Name nm pT) X.env) :: starEach [] X.env := by rfl) (hpl : (backTo pos (starEach [.Name nm pT] X.env)).any (·.1) = false := by rfl) :
    SE X cl (.Call (.Name "isinstance" p) [a, .Name nm pT] [] pos) (mIsiO n c' m) := by
  refine PE.weak (pe_callB (call_isiA (.ref (cl c'))) hg hm (by decide +kernel) (pa_cons he (pa_cons (pe_glob (v := .ref (cl c')) hgT hI.m rfl hd) pa_nil hs2) hs) (he := hs) (hpl := hpl)) fun σ H Q ⟨F, α, δ, μ, z, μ', C, Ee, hm, k⟩ => ?_
  unfold mIsiO at hm
  split at hm
  · cases hm
  · rename_i c1' xs μ1 h1
    split at hm
    · rename_i hc
      cases hm
      refine ⟨F, α, δ, μ, _, μ', C, Ee, h1, fun v F1 H1 e1 c1 q1 => ?_⟩
      obtain ⟨i1, i2, i3⟩ := hI.s c1' hc
      cases q1 with
      | ins hsl hq hr => exact .inr ⟨_, _, _, _, .ref (cl c'), _, rfl, rfl, fun w hw => hw, Same.slt c1.sub hsl, i1, i2, i3, k _ F1 H1 e1 c1 (.bl _)⟩
    · cases hm
  · rename_i r1 μ1 _ h1
    split at hm
    · rename_i t h2
      cases hm
      refine ⟨F, α, δ, μ, r1, μ', C, Ee, h1, fun v F1 H1 e1 c1 q1 => ?_⟩
      obtain ⟨q2, q3⟩ := tag_ok c1 q1 h2
      refine .inl ⟨v, .ref (cl c'), .type t, .ref (cl c'), false, rfl, .own _, q2, ?_, k _ F1 H1 e1 c1 (.bl _)⟩
      rcases q3 with rfl | rfl | rfl | rfl | rfl | rfl
      · exact hI.non
      · exact hI.bool
      · exact hI.int
      · exact hI.str
      · exact hI.tuple
      · exact hI.list
    · cases hm
end
end DL
set_option Elab.async false
set_option linter.all false
set_option maxRecDepth 100000
set_option maxHeartbeats 1000000
namespace DL
open PySem PySem.Spec PyProof.Rows L2
theorem putD_len {i : Nat} {d : D} {pd : List (Option D)} : 0 < (putD i d pd).length := by
  unfold putD
  rw [List.length_set, List.length_append, List.length_replicate]
  omega
theorem putDs_len : ∀ {is : List Nat} {ds : List D} {pd pd' : List (Option D)}, 0 < pd.length → putDs is ds pd = some pd' → 0 < pd'.length
  | [], [], _, _, h, e => by
    cases e
    exact h
  | _ :: is, _ :: ds, _, _, _, e => putDs_len (is := is) (ds := ds) putD_len e
  | [], _ :: _, _, _, _, e => by cases e
  | _ :: _, [], _, _, _, e => by cases e
theorem mbTup_ne {i : Nat} {is : List Nat} {m : ME} (δ : Sl) (μ : Mu) (pd : List (Option D)) (μ' : Mu) : mbTup (i :: is) m δ μ pd ≠ some (μ', []) := fun h => by
  unfold mbTup at h
  split at h
  · rename_i ds μ1 _
    split at h
    · split at h
      · rename_i pd' e
        cases h
        cases ds with
        | nil => cases e
        | cons d ds =>
          have := putDs_len (is := is) (ds := ds) putD_len e
          simp at this
      · cases h
    · cases h
  · cases h
theorem mbSet_ne {i : Nat} {m : ME} (δ : Sl) (μ : Mu) (pd : List (Option D)) (μ' : Mu) : mbSet i m δ μ pd ≠ some (μ', []) := fun h => by
  unfold mbSet at h
  split at h
  · split at h
    · rename_i d _
      have h2 := congrArg (Option.map Prod.snd) h
      have h3 : putD i d pd = [] := Option.some.inj h2
      have := putD_len (i := i) (d := d) (pd := pd)
      rw [h3] at this
      simp at this
    · cases h
  · cases h
theorem mbSeq_ne {m1 m2 : MB} (hm : ∀ δ μ pd μ', m2 δ μ pd ≠ some (μ', [])) (δ : Sl) (μ : Mu) (pd : List (Option D)) (μ' : Mu) : mbSeq m1 m2 δ μ pd ≠ some (μ', []) := fun h => by
  unfold mbSeq at h
  split at h
  · exact hm _ _ _ _ h
  · cases h
theorem kit_rt {K : PySem.W.Frag} {C : Addr} {T : String} {b : Bool} (h : PySem.W.subIn K (.ref C) (.type T) = some b) (hm : PySem.W.kitMeta T = true := by decide +kernel) : PySem.W.kitOne K (.ref C) (.type T) = some b := by
  have ne : (Value.ref C == Value.type T) = false := Bool.eq_false_iff.mpr fun q => by cases beq_iff_eq.mp q
  unfold PySem.W.kitOne PySem.W.kitCls
  rw [ne]
  simp only [Bool.false_eq_true, if_false, hm, if_true]
  exact h
theorem kit_tr {K : PySem.W.Frag} {C : Addr} {T : String} {b : Bool} (h : PySem.W.subIn K (.type T) (.ref C) = some b) (ic : PySem.W.isClsIn K C = true) (ty : PySem.W.typeIn K (.ref C) = some (.type "type")) : PySem.W.kitOne K (.type T) (.ref C) = some b := by
  have ne : (Value.type T == Value.ref C) = false := Bool.eq_false_iff.mpr fun q => by cases beq_iff_eq.mp q
  have ic' : (PySem.W.clsIn K C).isSome = true := ic
  unfold PySem.W.kitOne PySem.W.kitCls
  rw [ne]
  simp only [Bool.false_eq_true, if_false, ic', ty, beq_self_eq_true, Bool.and_self, if_true]
  exact h
theorem kit_rr {K : PySem.W.Frag} {C : Addr} : PySem.W.kitOne K (.ref C) (.ref C) = some true := if_pos (beq_self_eq_true _)
theorem kit_rn {K : PySem.W.Frag} {C C' : Addr} (h : PySem.W.subIn K (.ref C) (.ref C') = some false) (hs : PySem.W.subIn K (.ref C) (.ref C) = some true) (ic : PySem.W.isClsIn K C' = true) (ty : PySem.W.typeIn K (.ref C') = some (.type "type")) : PySem.W.kitOne K (.ref C) (.ref C') = some false := by
  have ne : (Value.ref C == Value.ref C') = false := Bool.eq_false_iff.mpr fun q => by
    cases beq_iff_eq.mp q
    rw [h] at hs
    cases hs
  have ic' : (PySem.W.clsIn K C').isSome = true := ic
  unfold PySem.W.kitOne PySem.W.kitCls
  rw [ne]
  simp only [Bool.false_eq_true, if_false, ic', ty, beq_self_eq_true, Bool.and_self, if_true]
  exact h
end DL
set_option Elab.async false
set_option linter.all false
set_option maxRecDepth 100000
set_option maxHeartbeats 1000000

namespace DL
open PySem PySem.Spec PyProof.Rows L2
section
variable {prog : Program} {w : World} {A : Around} {E : Value → Shared → Prop} {s : Shared} {K : PySem.W.Frag} {x C L f f0 dx : Addr} {h₀ : Heap} {m : Str → Option Value} {ox : Obj} {od : Option Obj} {sl : Array (Option Value)}
abbrev InsP (x C dx : Addr) (sl : Array (Option Value)) : Shared → Prop := fun s => s.heap.get? x = some { PySem.W.instObj C dx with slots := sl }
abbrev Dec (id : String) : Prop := ∃ B : Builtin, entryFor table id = some B ∧ (∀ a b, argsOk id ⟨[a, b], []⟩) ∧ ∀ (x C dx : Addr) (sl : Array (Option Value)) (a : Int) (t : Tok), GivesAt (InsP x C dx sl) (B ⟨[.int a t, .ref x], []⟩) (.val .notImplemented)
theorem dec_or : Dec "int.__or__" := ⟨_, PySem.F.entry_int_or, PySem.F.args_int_or_2, fun x C dx sl a t prog w A R s hP h => by
  obtain ⟨hp, g, d, tk, os⟩ := s
  wp_walk
  exact h⟩
theorem dec_and : Dec "int.__and__" := ⟨_, PySem.F.entry_int_and, PySem.F.args_int_and_2, fun x C dx sl a t prog w A R s hP h => by
  obtain ⟨hp, g, d, tk, os⟩ := s
  wp_walk
  exact h⟩
theorem dec_add : Dec "int.__add__" := ⟨_, PySem.F.entry_int_add, PySem.F.args_int_add_2, fun x C dx sl a t prog w A R s hP h => by
  obtain ⟨hp, g, d, tk, os⟩ := s
  wp_walk
  exact h⟩
theorem dec_sub : Dec "int.__sub__" := ⟨_, PySem.F.entry_int_sub, PySem.F.args_int_sub_2, fun x C dx sl a t prog w A R s hP h => by
  obtain ⟨hp, g, d, tk, os⟩ := s
  wp_walk
  exact h⟩
theorem dec_eq : Dec "int.__eq__" := ⟨_, PySem.F.entry_int_eq, PySem.F.args_int_eq_2, fun x C dx sl a t prog w A R s hP h => by
  obtain ⟨hp, g, d, tk, os⟩ := s
  wp_walk
  exact h⟩
theorem dec_ne : Dec "int.__ne__" := ⟨_, PySem.F.entry_int_ne, PySem.F.args_int_ne_2, fun x C dx sl a t prog w A R s hP h => by
  obtain ⟨hp, g, d, tk, os⟩ := s
  wp_walk
  exact h⟩
theorem dec_lt : Dec "int.__lt__" := ⟨_, PySem.F.entry_int_lt, PySem.F.args_int_lt_2, fun x C dx sl a t prog w A R s hP h => by
  obtain ⟨hp, g, d, tk, os⟩ := s
  wp_walk
  exact h⟩
theorem dec_le : Dec "int.__le__" := ⟨_, PySem.F.entry_int_le, PySem.F.args_int_le_2, fun x C dx sl a t prog w A R s hP h => by
  obtain ⟨hp, g, d, tk, os⟩ := s
  wp_walk
  exact h⟩
theorem dec_gt : Dec "int.__gt__" := ⟨_, PySem.F.entry_int_gt, PySem.F.args_int_gt_2, fun x C dx sl a t prog w A R s hP h => by
  obtain ⟨hp, g, d, tk, os⟩ := s
  wp_walk
  exact h⟩
theorem dec_ge : Dec "int.__ge__" := ⟨_, PySem.F.entry_int_ge, PySem.F.args_int_ge_2, fun x C dx sl a t prog w A R s hP h => by
  obtain ⟨hp, g, d, tk, os⟩ := s
  wp_walk
  exact h⟩
open PySem.W in
theorem bin_R {op : Operator} {n : Int} {t : Tok} {idl : String} {Q : Value → Shared → Prop} (F : Fr h₀ L s.heap m) (X₀ : K.In h₀) (I : InstAt s.heap x { PySem.W.instObj C dx with slots := sl } C od) (hc : selfFirst K C = true)
    (hs : findIn K (.ref C) (PySem.dunder op.info.2) = some (some (.ref f0))) (hr : findIn K (.ref C) (dunderR op.info.2) = some (some (.ref f))) (hf : isFn K (.ref f) = true)
    (hfT : fillsNumberSlot (.type "int") op.info.2 = pure true) (hl : Slot "int" (PySem.dunder op.info.2) idl) (hd : Dec idl) (hsub : subIn K (.ref C) (.type "int") = some false)
    (h : wpAny (model prog w) A (call (.ref f) [.ref x, .int n t]) (PySem.W.CmpBack Q) E s) : wpAny (model prog w) A (binaryOp op (.int n t) (.ref x)) Q E s := by
  have X := X₀.keeps F.keep
  obtain ⟨cd, rest, hcd, hm⟩ := ksp_first hc
  obtain ⟨B, en, ar, g⟩ := hd
  have hI : InsP x C dx sl s := I.at_
  rcases hi : op.info with ⟨sym, nm'⟩
  rw [hi] at hs hr hfT hl
  dsimp only at hs hr hfT hl
  have two := ksp_try X I hr hf h
  have one : wpAny (model prog w) A (tryMethod (.int n t) (PySem.dunder nm') (.ref x)) (fun r s' => r = none ∧ s' = s) E s :=
    wpAny_tryMethod_declines (typeIs_int s n t) hl (call_givesAt hl (typeIs_int s n t) en (ar _ _) (g x C dx sl n t) hI ⟨rfl, rfl, rfl⟩)
  obtain ⟨hh, g, d, tt, os⟩ := s
  have L1 : Looks (model prog w) hh (typeOf (.ref x)) (.ref C) := I.type
  have L2 : Looks (model prog w) hh (typeOf (.int n t)) (.type "int") := Looks.of_pure rfl
  have L3 : Looks (model prog w) hh (fillsNumberSlot (.ref C) nm') true := fills_K X hcd hm hs
  have L4 : Looks (model prog w) hh (fillsNumberSlot (.type "int") nm') true := Looks.of_pure hfT
  have L5 : Looks (model prog w) hh (isSubtype (.ref C) (.type "int")) false := looks_subIn X hsub
  have L7 : Looks (model prog w) hh (numberSlotInPython (.type "int") nm') false := Looks.of_pure rfl
  have hne : (Value.type "int" == Value.ref C) = false := Bool.eq_false_iff.mpr fun q => by cases beq_iff_eq.mp q
  simp only [binaryOp, hi]
  refine wpAny_holding (wpAny_bind ?_)
  unfold binaryOp1
  refine wpAny_bind (L2.at (wpAny_bind (L1.at (wpAny_bind (L4.at ?_)))))
  simp only [hne, Bool.false_eq_true, if_false]
  refine wpAny_bind (L3.at ?_)
  simp only [Bool.and_self, if_true]
  refine wpAny_bind (L5.at ?_)
  simp only [Bool.false_eq_true, if_false, pure_bind, Bool.not_false, Bool.and_self, if_true]
  refine wpAny_bind (L7.at ?_)
  simp only [Bool.false_eq_true, if_false, pure_bind, Bool.not_false, Bool.and_self, if_true]
  refine wpAny_bind (wpAny_mono one (fun r s' hr' => ?_) fun _ _ e => e)
  obtain ⟨rfl, rfl⟩ := hr'
  simp only [Bool.false_eq_true, if_false, pure_bind, Bool.not_false, Bool.and_self, if_true]
  refine wpAny_bind (wpAny_mono two (fun r s' hr' => ?_) fun _ _ e => e)
  obtain ⟨v, rfl, hq⟩ := hr'
  exact wpAny_bind (wpAny_rule (wpAny_pure (wpAny_pure hq)))
open PySem.W in
theorem cmp_R {op : CmpOp} {n : Int} {t : Tok} {idl : String} {Q : Value → Shared → Prop} (hu : A.units < cLine) (F : Fr h₀ L s.heap m) (X₀ : K.In h₀) (I : InstAt s.heap x { PySem.W.instObj C dx with slots := sl } C od)
    (hs : findIn K (.ref C) (cmpInfo op).2.2 = some (some (.ref f))) (hf : isFn K (.ref f) = true) (hl : Slot "int" (cmpInfo op).2.1 idl) (hd : Dec idl) (hsub : subIn K (.ref C) (.type "int") = some false)
    (h : wpAny (model prog w) A (call (.ref f) [.ref x, .int n t]) (PySem.W.CmpBack Q) E s) : wpAny (model prog w) A (richCompare op (.int n t) (.ref x)) Q E s := by
  have X := X₀.keeps F.keep
  obtain ⟨B, en, ar, g⟩ := hd
  have hI : InsP x C dx sl s := I.at_
  have one : wpAny (model prog w) A (tryCompare (.int n t) (cmpInfo op).2.1 (.ref x)) (fun r s' => r = none ∧ s' = s) E s :=
    wpAny_tryCompare_declines (typeIs_int s n t) hl (call_givesAt hl (typeIs_int s n t) en (ar _ _) (g x C dx sl n t) hI ⟨rfl, rfl, rfl⟩)
  have two : wpAny (model prog w) A (tryCompare (.ref x) (cmpInfo op).2.2 (.int n t)) (fun r s' => ∃ v, r = some v ∧ Q v s') E s := by
    unfold tryCompare
    refine wpAny_bind (ifBound_K X I hs hf (wpAny_mono h (fun v s' hv => ?_) fun _ _ e => e))
    cases v <;> first | exact hv.elim | exact wpAny_pure ⟨_, rfl, hv⟩
  unfold richCompare
  simp only [(typeIs_int s n t).oneThing_none]
  refine wpAny_holding (wpAny_bind (wpAny_cRoomFor hu ?_))
  refine wpAny_bind (wpAny_typeOf (typeIs_int s n t) (wpAny_bind (I.type.here ?_)))
  have hne : (Value.type "int" != Value.ref C) = true := by
    rw [bne_iff_ne]
    exact fun q => by cases q
  simp only [hne, if_true]
  refine wpAny_bind ((looks_subIn X hsub).here ?_)
  simp only [Bool.false_eq_true, if_false, Bool.not_false, if_true]
  refine wpAny_bind (wpAny_mono one (fun r s' hr' => ?_) fun _ _ e => e)
  obtain ⟨rfl, rfl⟩ := hr'
  refine wpAny_bind (wpAny_mono two (fun r s' hr' => ?_) fun _ _ e => e)
  obtain ⟨v, rfl, hq⟩ := hr'
  exact wpAny_pure hq
open PySem.W Builtin in
theorem ne_call {b : Value} {Q : Value → Shared → Prop} (hu : A.in1.units < cLine) (X : K.In s.heap) (I : InstAt s.heap x ox C od) (hm : mroIn K C (.type "object") = some true) (he : findIn K (.ref C) "__eq__" = some (some (.ref f))) (hf : isFn K (.ref f) = true)
    (h : wpAny (model prog w) A.in1 (call (.ref f) [.ref x, b]) (fun v s' => ∃ k, v = .bool k ∧ Q (.bool (!k)) s') E s) : wpAny (model prog w) A (call (.builtin "object.__ne__") [.ref x, b]) Q E s := by
  refine wpAny_call (codeAny_call_builtin (by decide +kernel) PySem.F.cmpEntry_ne (check_slot (i := "object.__ne__") (owner := "object") (n := "__ne__") (by decide +kernel) (by decide +kernel) (I.type.andThen (looks_mroIn X hm)) (PySem.F.cmpArgs_ne _ _) ?_))
  unfold Builtin.«object.__ne__»
  refine wpAny_bind (m := slotArgs "__ne__" 1 _) (wpAny_pure ?_)
  dsimp only
  refine wpAny_bind (m := cRoomFor _ _) (wpAny_cRoomFor hu ?_)
  refine wpAny_bind (m := callSpecialIfBound? (.ref x) (Str.ofString "__eq__") _) (ifBound_K X I he hf (wpAny_mono h (fun r s' hq => ?_) fun _ _ y => y))
  obtain ⟨k, rfl, hq⟩ := hq
  refine wpAny_bind (m := truthy (.bool _)) (wpAny_truthy_bool ?_)
  exact wpAny_pure hq
open PySem.W Builtin in
theorem cmp_ne {b tb : Value} {Q : Value → Shared → Prop} (hu : A.in1.units < cLine) (hu0 : A.units < cLine) (F : Fr h₀ L s.heap m) (X₀ : K.In h₀) (I : InstAt s.heap x ox C od) (hb : Looks (model prog w) s.heap (typeOf b) tb) (hn : notFirst K C tb = true)
    (hs : findIn K (.ref C) "__ne__" = some (some (.builtin "object.__ne__"))) (hm : mroIn K C (.type "object") = some true) (he : findIn K (.ref C) "__eq__" = some (some (.ref f))) (hf : isFn K (.ref f) = true)
    (h : wpAny (model prog w) A.in1 (call (.ref f) [.ref x, b]) (fun v s' => ∃ k, v = .bool k ∧ Q (.bool (!k)) s') E s) : wpAny (model prog w) A (richCompare .NotEq (.ref x) b) Q E s := by
  have X := X₀.keeps F.keep
  have one : wpAny (model prog w) A (tryCompare (.ref x) "__ne__" b) (fun r s' => ∃ v, r = some v ∧ Q v s') E s := by
    unfold tryCompare
    simp only [callSpecialIfBound?, bindSpecialIfBound?]
    refine wpAny_bind (wpAny_holding (wpAny_bind (wpAny_bind (wpAny_bind (I.type.here ((looks_findIn X hs).here ?_))))))
    refine wpAny_bind (wpAny_askSetting (wpAny_ite ?_))
    have fin : wpAny (model prog w) A (call (.builtin "object.__ne__") ([.ref x] ++ [b]) >>= fun v => pure (some v)) (fun r s' => ∃ k, r = some (.bool k) ∧ Q (.bool k) s') E s :=
      wpAny_bind (ne_call (Q := fun v s' => wpAny (model prog w) A (pure (some v)) (fun r s' => ∃ k, r = some (.bool k) ∧ Q (.bool k) s') E s') hu X I hm he hf (wpAny_mono h (fun v s' ⟨k, e, q⟩ => ⟨k, e, wpAny_pure ⟨_, rfl, q⟩⟩) fun _ _ z => z))
    have fin2 := wpAny_mono fin (Q' := fun r s' => wpAny (model prog w) A (match r with | some .notImplemented | none => pure none | some v => pure (some v)) (fun r s' => ∃ v, r = some v ∧ Q v s') E s') (E' := E) (fun r s' ⟨k, e, q⟩ => by subst e; exact wpAny_pure ⟨_, rfl, q⟩) fun _ _ z => z
    have bd : bindSpecial (.builtin "object.__ne__") (.ref x) = pure (.builtin "object.__ne__", [.ref x]) := by rfl
    rw [bd]
    split
    · exact wpAny_bind (wpAny_pure (wpAny_pure (by exact fin2)))
    · exact wpAny_tryCatch (wpAny_bind (wpAny_pure (wpAny_pure (by exact fin2))))
  unfold richCompare
  simp only [oneThing_ref]
  refine wpAny_holding (wpAny_bind (wpAny_cRoomFor hu0 ?_))
  refine wpAny_bind (I.type.here (wpAny_bind (hb.here ?_)))
  split
  · rename_i q
    have e : subIn K tb (.ref C) = some false := by
      rcases Bool.or_eq_true_iff.mp hn with e | e
      · rw [beq_iff_eq.mp e] at q; simp at q
      · exact beq_iff_eq.mp e
    refine wpAny_bind ((looks_subIn X e).here ?_)
    simp only [Bool.false_eq_true, if_false]
    refine wpAny_bind (wpAny_mono one (fun r s' z => ?_) fun _ _ e => e)
    obtain ⟨v, rfl, hq⟩ := z
    exact wpAny_pure hq
  · refine wpAny_bind (wpAny_pure ?_)
    simp only [Bool.false_eq_true, if_false]
    refine wpAny_bind (wpAny_mono one (fun r s' z => ?_) fun _ _ e => e)
    obtain ⟨v, rfl, hq⟩ := z
    exact wpAny_pure hq
end
end DL
set_option Elab.async false
set_option linter.all false
set_option maxRecDepth 100000
set_option maxHeartbeats 1000000

namespace DL
open PySem PySem.Spec PyProof.Rows L2
abbrev G2 := R → R → Mu → Option (R × Mu)
def OpSemG (K : PySem.W.Frag) (cl : Nat → Addr) (r : R2) (g : G2) : Prop := ∀ (F : Hp) (α : List Addr) (μ μ' : Mu) (H H0 : Hp) (x y : V) (rx ry z : R) (Q : VK), Conc K cl F α μ H → RepR K cl H0 F α H x rx → RepR K cl H0 F α H y ry → g rx ry μ = some (z, μ') →
  (∀ v F' H', Evo F α H F' α H' → Conc K cl F' α μ' H' → RepR K cl H F' α H' v z → Q v H') → r x y H Q
@[simp] def gB (f : R → R → Mu → Option R) : G2 := fun x y μ => match f x y μ with
  | some z => some (z, μ)
  | none => none
@[simp] def gOr (g1 g2 : G2) : G2 := fun x y μ => match g1 x y μ with
  | some r => some r
  | none => g2 x y μ
@[simp] def mOpG (g : G2) (ma mb : ME) : ME := fun δ μ => match ma δ μ with
  | none => none
  | some (x, μ1) => match mb δ μ1 with
    | none => none
    | some (y, μ2) => g x y μ2
section
variable {X : Cx} {cl : Nat → Addr} {e o a b tg : Expr} {es : List Expr} {m mo ma mb : ME} {ms mk : MA} {pos p apos : Pos} {K : PySem.W.Frag} {f g C : Addr} {n np nk k j c : Nat} {mf : MF} {nm y : Str} {P : Program} {w : World} {mg : Str → Option Value} {base : Heap} {r r' : R2} {g1 g2 : G2}
theorem argD {F H H0 : Hp} {α : List Addr} {v : V} {d : D} (h : RepR K cl H0 F α H v (.dat d)) : ArgR K cl F α v (.dat d) := h
theorem semG_B {f : R → R → Mu → Option R} (h : OpSem K cl r f) : OpSemG K cl r (gB f) := by
  intro F α μ μ' H H0 x y rx ry z Q C h1 h2 hz k
  unfold gB at hz
  split at hz
  · rename_i z' e1
    cases hz
    exact h F α μ H H0 x y rx ry z Q C h1 h2 e1 k
  · cases hz
theorem semG_or (h : OpSemG K cl r g1) (h' : OpSemG K cl r' g2) : OpSemG K cl (fun x y H Q => r x y H Q ∨ r' x y H Q) (gOr g1 g2) := by
  intro F α μ μ' H H0 x y rx ry z Q C h1 h2 hz k
  unfold gOr at hz
  split at hz
  · rename_i z' e1
    cases hz
    exact .inl (h F α μ μ' H H0 x y rx ry z Q C h1 h2 e1 k)
  · exact .inr (h' F α μ μ' H H0 x y rx ry z Q C h1 h2 hz k)
theorem opG_imp (hf : OpSemG K cl r g1) : ∀ σ H Q, tm K cl (mOpG g1 ma mb) σ H Q → tOp r (tm K cl ma) (tm K cl mb) σ H Q := fun σ H Q ⟨F, α, δ, μ, z, μ', C, Ee, hm, k⟩ => by
  unfold mOpG at hm
  split at hm
  · cases hm
  rename_i x1 μ1 h1
  split at hm
  · cases hm
  rename_i y1 μ2 h2
  refine ⟨F, α, δ, μ, x1, μ1, C, Ee, h1, fun v F1 H1 e1 c1 r1 => ⟨F1, α, δ, μ1, y1, μ2, c1, Ee.step e1, h2, fun w F2 H2 e2 c2 r2 => ?_⟩⟩
  exact hf F2 α μ2 μ' H2 H v w x1 y1 z Q c2 (r1.step e2) (r2.back e1.dom) hm fun u F3 H3 e3 c3 r3 => k u F3 H3 (e1.trans (e2.trans e3)) c3 (r3.back fun p hp => e1.dom p (e2.dom p hp))
theorem se_opG {op : Operator} (ho : OpR X (binaryOp op) r) (hf : OpSemG X.K cl r g1) (ha : SE X cl a ma) (hb : SE X cl b mb) : SE X cl (.BinOp a op b pos) (mOpG g1 ma mb) := PE.weak (pe_op ho ha hb) (opG_imp hf)
theorem se_cmpG {op : CmpOp} (ho : OpR X (compareOp op) r) (hf : OpSemG X.K cl r g1) (ha : SE X cl a ma) (hb : SE X cl b mb) (hm : behindInMarks op b = false) : SE X cl (.Compare a [op] [b] pos) (mOpG g1 ma mb) := PE.weak (pe_cmpR ho ha hb hm) (opG_imp hf)
theorem st_cmpG {op : CmpOp} (ho : OpR X (compareOp op) r) (hf : OpSemG X.K cl r g1) (ha : SE X cl a ma) (hb : SE X cl b mb) (hm : behindInMarks op b = false) : ST X cl (.Compare a [op] [b] pos) (mB (mOpG g1 ma mb)) :=
  PT.weak (pt_cmpR ho ha hb hm) (test_imp (opG_imp hf))

def BinG (X : Cx) (cl : Nat → Addr) (op : Operator) (g : G2) : Prop := ∃ r, OpR X (binaryOp op) r ∧ OpSemG X.K cl r g
def CmpG (X : Cx) (cl : Nat → Addr) (op : CmpOp) (g : G2) : Prop := ∃ r, OpR X (compareOp op) r ∧ OpSemG X.K cl r g
theorem BinG.or {op : Operator} (h : BinG X cl op g1) (h' : BinG X cl op g2) : BinG X cl op (gOr g1 g2) := by
  obtain ⟨r, h1, h2⟩ := h
  obtain ⟨r', h1', h2'⟩ := h'
  exact ⟨_, OpR.or h1 h1', semG_or h2 h2'⟩
theorem CmpG.or {op : CmpOp} (h : CmpG X cl op g1) (h' : CmpG X cl op g2) : CmpG X cl op (gOr g1 g2) := by
  obtain ⟨r, h1, h2⟩ := h
  obtain ⟨r', h1', h2'⟩ := h'
  exact ⟨_, OpR.or h1 h1', semG_or h2 h2'⟩
theorem se_binG {op : Operator} (h : BinG X cl op g1) (ha : SE X cl a ma) (hb : SE X cl b mb) : SE X cl (.BinOp a op b pos) (mOpG g1 ma mb) := by
  obtain ⟨r, h1, h2⟩ := h
  exact se_opG h1 h2 ha hb
theorem se_cG {op : CmpOp} (h : CmpG X cl op g1) (ha : SE X cl a ma) (hb : SE X cl b mb) (hm : behindInMarks op b = false := by rfl) : SE X cl (.Compare a [op] [b] pos) (mOpG g1 ma mb) := by
  obtain ⟨r, h1, h2⟩ := h
  exact se_cmpG h1 h2 ha hb hm
theorem st_cG {op : CmpOp} (h : CmpG X cl op g1) (ha : SE X cl a ma) (hb : SE X cl b mb) (hm : behindInMarks op b = false := by rfl) : ST X cl (.Compare a [op] [b] pos) (mB (mOpG g1 ma mb)) := by
  obtain ⟨r, h1, h2⟩ := h
  exact st_cmpG h1 h2 ha hb hm
theorem bin_add : BinG X cl .Add (gB fAdd) := ⟨_, op_addAll, semG_B sem_add⟩
theorem bin_sub : BinG X cl .Sub (gB fSub) := ⟨_, op_sub, semG_B (sem_I0 fun _ _ _ => .int _)⟩
theorem cmp_eqB (hu : X.A.units + 64 < cLine) : CmpG X cl .Eq (gB (fEq false)) := ⟨_, op_eqAll hu, semG_B sem_eq⟩
theorem cmp_neB (hu : X.A.units + 64 < cLine) : CmpG X cl .NotEq (gB (fEq true)) := ⟨_, op_neAll hu, semG_B sem_ne⟩
theorem cmp_ltB (hu : X.A.units < cLine) : CmpG X cl .Lt (gB fLt) := ⟨_, op_ltAll hu, semG_B sem_lt⟩
theorem cmp_leB : CmpG X cl .LtE (gB fLeI) := ⟨_, op_le, semG_B (sem_I0 fun _ _ _ => .bl _)⟩
theorem cmp_gtB : CmpG X cl .Gt (gB fGtI) := ⟨_, op_gt, semG_B (sem_I0 fun _ _ _ => .bl _)⟩
theorem cmp_geB : CmpG X cl .GtE (gB fGeI) := ⟨_, op_ge, semG_B (sem_I0 fun _ _ _ => .bl _)⟩

@[simp] def gII (c : Nat) (f : MF) : G2
  | .dat (.ins c1 xs), .dat (.ins c2 ys), μ => if c1 = c ∧ c2 = c then f [.dat (.ins c1 xs), .dat (.ins c2 ys)] μ else none
  | _, _, _ => none
@[simp] def gIN (c : Nat) (f : MF) : G2
  | .dat (.ins c1 xs), .dat (.int i), μ => if c1 = c then f [.dat (.ins c1 xs), .dat (.int i)] μ else none
  | _, _, _ => none
@[simp] def gNI (c : Nat) (f : MF) : G2
  | .dat (.int i), .dat (.ins c2 ys), μ => if c2 = c then f [.dat (.ins c2 ys), .dat (.int i)] μ else none
  | _, _, _ => none
theorem binII {op : Operator} (S : FO X.prog X.w X.K X.mg X.base cl k c op mf) (hr : Room j X.A) (hk : k ≤ j) : BinG X cl op (gII c mf) := by
  obtain ⟨sf, g, h1, h2, h3⟩ := S
  refine ⟨_, op_bin sf h1 h2 h3.raw (hr.mono hk) pass0, ?_⟩
  intro F α μ μ' H H0 x y rx ry z Q C q1 q2 hz kk
  unfold gII at hz
  split at hz
  · rename_i c1 xs c2 ys
    split at hz
    · rename_i hc
      obtain ⟨rfl, rfl⟩ := hc
      have hsp : spM X.K cl 2 mf [x, y] H Q E0 := ⟨F, α, μ, _, z, μ', rfl, C, .cons (argD q1) (.cons (argD q2) .nil), hz, kk⟩
      cases q1 with
      | ins hs1 hq1 hr1 =>
        cases q2 with
        | ins hs2 hq2 hr2 => exact ⟨_, _, _, _, _, _, rfl, rfl, Same.slt C.sub hs1, Same.slt C.sub hs2, hsp⟩
    · cases hz
  · cases hz
def rIN (C : Addr) (sp : Sp) (E : XK) : R2 := fun x y H Q => ∃ a dx vs i, x = .ref a ∧ y = .int i ∧ SlX.Slt H a C dx vs ∧ sp [x, y] H Q E
structure FON (P : Program) (w : World) (K : PySem.W.Frag) (mg : Str → Option Value) (base : Heap) (cl : Nat → Addr) (k c : Nat) (op : Operator) (m : MF) : Prop where
  sf : PySem.W.selfFirst K (cl c) = true
  ok : ∃ g, PySem.W.findIn K (.ref (cl c)) (PySem.dunder op.info.2) = some (some (.ref g)) ∧ PySem.W.isFn K (.ref g) = true ∧ FA P w K mg base cl k g 2 m
  rc : ∃ rc : Option Value, PySem.W.findIn K (.ref (cl c)) (dunderR op.info.2) = some rc ∧ (rc = none ∨ ∃ g : Addr, rc = some (.ref g))
  h1 : ∃ fo, PySem.W.findIn K (.type "int") (PySem.dunder op.info.2) = some fo
  h2 : ∃ ro, PySem.W.findIn K (.type "int") (dunderR op.info.2) = some ro
  sb : PySem.W.subIn K (.type "int") (.ref (cl c)) = some false
theorem FON.cx {op : Operator} (S : FON P w K mg base cl k c op mf) : FON P w K mg base cl k c op (callX mf) := by
  obtain ⟨s, ⟨g, h1, h2, h3⟩, h4, h5, h6, h7⟩ := S
  exact ⟨s, ⟨g, h1, h2, h3.x⟩, h4, h5, h6, h7⟩
theorem binIN {op : Operator} (S : FON X.prog X.w X.K X.mg X.base cl k c op mf) (hr : Room j X.A) (hk : k ≤ j) : BinG X cl op (gIN c mf) := by
  obtain ⟨sf, ⟨g, h1, h2, h3⟩, ⟨rc, h4, h4'⟩, ⟨fo, h5⟩, ⟨ro, h6⟩, h7⟩ := S
  refine ⟨rIN (cl c) (spM X.K cl 2 mf) E0, ?_, ?_⟩
  · intro pins s σ H x y v u Q I rx ry h
    obtain ⟨a, dx, vs, i, rfl, rfl, ha, q⟩ := h
    cases (show v = Value.ref a from rx)
    obtain ⟨t, rfl⟩ := (show ∃ t, u = Value.int i t from ry)
    obtain ⟨sl, od, _, J, _⟩ := SlX.slt_inst I ha
    obtain ⟨m, hF⟩ := I.fr
    refine PySem.W.ksp_binT hF I.ok.mod.kin J rfl sf h1 h2 h4 h4' h5 h6 h7 ?_
    refine wpAny_mono (wpAny_call (run_fnR (us := [.ref a, .int i t]) (vs := [.ref a, .int i]) h3.raw (hr.mono hk) pass0 I (.cons rfl (.cons ⟨t, rfl⟩ .nil)) q)) (fun w s' z => ?_) fun _ _ x => x
    obtain ⟨z', H', I', rz, qz⟩ := z
    exact SlX.cmpback rz ⟨z', H', I', rz, qz⟩
  · intro F α μ μ' H H0 x y rx ry z Q C q1 q2 hz kk
    unfold gIN at hz
    split at hz
    · rename_i c1 xs i
      split at hz
      · rename_i hc
        subst hc
        have hsp : spM X.K cl 2 mf [x, y] H Q E0 := ⟨F, α, μ, _, z, μ', rfl, C, .cons (argD q1) (.cons (argD q2) .nil), hz, kk⟩
        cases q1 with
        | ins hs1 hq1 hr1 =>
          cases q2
          exact ⟨_, _, _, _, rfl, rfl, Same.slt C.sub hs1, hsp⟩
      · cases hz
    · cases hz
def rNI (C : Addr) (sp : Sp) (E : XK) : R2 := fun x y H Q => ∃ a dx vs i, x = .int i ∧ y = .ref a ∧ SlX.Slt H a C dx vs ∧ sp [y, x] H Q E
structure FOR (P : Program) (w : World) (K : PySem.W.Frag) (mg : Str → Option Value) (base : Heap) (cl : Nat → Addr) (k c : Nat) (op : Operator) (m : MF) : Prop where
  sf : PySem.W.selfFirst K (cl c) = true
  fw : ∃ g : Addr, PySem.W.findIn K (.ref (cl c)) (PySem.dunder op.info.2) = some (some (.ref g))
  ok : ∃ g, PySem.W.findIn K (.ref (cl c)) (dunderR op.info.2) = some (some (.ref g)) ∧ PySem.W.isFn K (.ref g) = true ∧ FA P w K mg base cl k g 2 m
  sb : PySem.W.subIn K (.ref (cl c)) (.type "int") = some false
theorem FOR.cx {op : Operator} (S : FOR P w K mg base cl k c op mf) : FOR P w K mg base cl k c op (callX mf) := by
  obtain ⟨s, h0, ⟨g, h1, h2, h3⟩, h4⟩ := S
  exact ⟨s, h0, ⟨g, h1, h2, h3.x⟩, h4⟩
theorem binNI {op : Operator} {idl : String} (hfT : fillsNumberSlot (.type "int") op.info.2 = pure true) (hl : Slot "int" (PySem.dunder op.info.2) idl) (hd : Dec idl) (S : FOR X.prog X.w X.K X.mg X.base cl k c op mf) (hr : Room j X.A) (hk : k ≤ j) : BinG X cl op (gNI c mf) := by
  obtain ⟨sf, ⟨g0, h0⟩, ⟨g, h1, h2, h3⟩, h4⟩ := S
  refine ⟨rNI (cl c) (spM X.K cl 2 mf) E0, ?_, ?_⟩
  · intro pins s σ H x y v u Q I rx ry h
    obtain ⟨a, dx, vs, i, rfl, rfl, ha, q⟩ := h
    cases (show u = Value.ref a from ry)
    obtain ⟨t, rfl⟩ := (show ∃ t, v = Value.int i t from rx)
    obtain ⟨sl, od, _, J, _⟩ := SlX.slt_inst I ha
    obtain ⟨m, hF⟩ := I.fr
    refine bin_R hF I.ok.mod.kin J sf h0 h1 h2 hfT hl hd h4 ?_
    refine wpAny_mono (wpAny_call (run_fnR (us := [.ref a, .int i t]) (vs := [.ref a, .int i]) h3.raw (hr.mono hk) pass0 I (.cons rfl (.cons ⟨t, rfl⟩ .nil)) q)) (fun w s' z => ?_) fun _ _ x => x
    obtain ⟨z', H', I', rz, qz⟩ := z
    exact SlX.cmpback rz ⟨z', H', I', rz, qz⟩
  · intro F α μ μ' H H0 x y rx ry z Q C q1 q2 hz kk
    unfold gNI at hz
    split at hz
    · rename_i i c2 ys
      split at hz
      · rename_i hc
        subst hc
        have hsp : spM X.K cl 2 mf [y, x] H Q E0 := ⟨F, α, μ, _, z, μ', rfl, C, .cons (argD q2) (.cons (argD q1) .nil), hz, kk⟩
        cases q2 with
        | ins hs1 hq1 hr1 =>
          cases q1
          exact ⟨_, _, _, _, rfl, rfl, Same.slt C.sub hs1, hsp⟩
      · cases hz
    · cases hz

/-- what stands on the right -/
def TyY (K : PySem.W.Frag) (H : Hp) (y : V) (tb : Value) : Prop := TyX K H y tb ∨ ∃ b C dy ws, y = .ref b ∧ SlX.Slt H b C dy ws ∧ tb = .ref C
theorem tyY_looks {pins : List (Addr × Obj)} {σ : L2.St} {H : Hp} {s : Shared} {y : V} {u tb : Value} (I : Inv X pins σ H s) (ry : RelV y u) (h : TyY X.K H y tb) : PySem.W.Looks (model X.prog X.w) s.heap (typeOf u) tb := by
  rcases h with h | ⟨b, C, dy, ws, rfl, h, rfl⟩
  · obtain ⟨P, Z, hP, _⟩ := kit_of I ry h
    exact Z.ty _ _ I.kIn hP
  · cases (show u = Value.ref b from ry)
    obtain ⟨sl, od, _, J, _⟩ := SlX.slt_inst I h
    exact J.type
def rCm (K : PySem.W.Frag) (C : Addr) (sp : Sp) (E : XK) : R2 := fun x y H Q => ∃ a dx vs tb, x = .ref a ∧ SlX.Slt H a C dx vs ∧ TyY K H y tb ∧ PySem.W.notFirst K C tb = true ∧ sp [x, y] H Q E
structure FCm (P : Program) (w : World) (K : PySem.W.Frag) (mg : Str → Option Value) (base : Heap) (cl : Nat → Addr) (k c n : Nat) (op : CmpOp) (m : MF) : Prop where
  ok : ∃ g, PySem.W.findIn K (.ref (cl c)) (cmpInfo op).2.1 = some (some (.ref g)) ∧ PySem.W.isFn K (.ref g) = true ∧ FA P w K mg base cl k g 2 m
  nf : ∀ t : String, (t = "NoneType" ∨ t = "bool" ∨ t = "int" ∨ t = "str" ∨ t = "tuple" ∨ t = "list") → PySem.W.notFirst K (cl c) (.type t) = true
  nc : ∀ c', c' < n → PySem.W.notFirst K (cl c) (.ref (cl c')) = true
theorem FCm.cx {op : CmpOp} (S : FCm P w K mg base cl k c n op mf) : FCm P w K mg base cl k c n op (callX mf) := by
  obtain ⟨⟨g, h1, h2, h3⟩, h4, h5⟩ := S
  exact ⟨⟨g, h1, h2, h3.x⟩, h4, h5⟩
/-- whether it may stand on the right -/
@[simp] def rhsOk (n : Nat) : R → Bool
  | .dat (.ins c _) => decide (c < n)
  | .dat d => (tag [] (.dat d)).isSome
  | _ => false
@[simp] def gCm (c n : Nat) (f : MF) : G2
  | .dat (.ins c1 xs), y, μ => if c1 = c ∧ rhsOk n y = true then f [.dat (.ins c1 xs), y] μ else none
  | _, _, _ => none
theorem rhs_ok {F H H0 : Hp} {α : List Addr} {μ : Mu} {y : V} {ry : R} {op : CmpOp} (S : FCm P w K mg base cl k c n op mf) (C : Conc K cl F α μ H) (h : RepR K cl H0 F α H y ry) (q : rhsOk n ry = true) : ∃ tb, TyY K H y tb ∧ PySem.W.notFirst K (cl c) tb = true ∧ ArgR K cl F α y ry := by
  cases ry with
  | no => cases q
  | cel k => cases q
  | fr xs => cases q
  | fc c' => cases q
  | dat d =>
    cases d with
    | ins c' xs =>
      have q : decide (c' < n) = true := q
      have h' : Rep K cl F y (.ins c' xs) := h
      cases h with
      | ins hs hq hr => exact ⟨_, .inr ⟨_, _, _, _, rfl, Same.slt C.sub hs, rfl⟩, S.nc c' (of_decide_eq_true q), h'⟩
    | scr _ => cases q
    | non => exact ⟨_, .inl (tag_ok C h rfl).1, S.nf _ (by simp), h⟩
    | bl _ => exact ⟨_, .inl (tag_ok C h rfl).1, S.nf _ (by simp), h⟩
    | int _ => exact ⟨_, .inl (tag_ok C h rfl).1, S.nf _ (by simp), h⟩
    | str _ => exact ⟨_, .inl (tag_ok C h rfl).1, S.nf _ (by simp), h⟩
    | tup _ => exact ⟨_, .inl (tag_ok C h rfl).1, S.nf _ (by simp), h⟩
    | lst _ => exact ⟨_, .inl (tag_ok C h rfl).1, S.nf _ (by simp), h⟩
theorem semG_Cm {op : CmpOp} (S : FCm P w K mg base cl k c n op mf) : OpSemG K cl (rCm K (cl c) (spM K cl 2 mf) E0) (gCm c n mf) := by
  intro F α μ μ' H H0 x y rx ry z Q C q1 q2 hz kk
  unfold gCm at hz
  split at hz
  · rename_i c1 xs
    split at hz
    · rename_i hc
      obtain ⟨rfl, hc⟩ := hc
      obtain ⟨tb, t1, t2, t3⟩ := rhs_ok S C q2 hc
      have hsp : spM K cl 2 mf [x, y] H Q E0 := ⟨F, α, μ, _, z, μ', rfl, C, .cons (argD q1) (.cons t3 .nil), hz, kk⟩
      cases q1 with
      | ins hs1 hq1 hr1 => exact ⟨_, _, _, tb, rfl, Same.slt C.sub hs1, t1, t2, hsp⟩
    · cases hz
  · cases hz
theorem cmpI {op : CmpOp} (hop : ∀ a b, compareOp op a b = richCompare op a b) (S : FCm X.prog X.w X.K X.mg X.base cl k c n op mf) (hr : Room j X.A) (hk : k ≤ j) : CmpG X cl op (gCm c n mf) := by
  refine ⟨_, ?_, semG_Cm S⟩
  obtain ⟨⟨g, h1, h2, h3⟩, _, _⟩ := S
  intro pins s σ H x y v u Q I rx ry h
  obtain ⟨a, dx, vs, tb, rfl, ha, ht, hn, q⟩ := h
  cases (show v = Value.ref a from rx)
  obtain ⟨sl, od, _, J, _⟩ := SlX.slt_inst I ha
  obtain ⟨m, hF⟩ := I.fr
  rw [hop]
  refine PySem.W.cmp_K (op := op) (tb := tb) hr.units0 hF I.ok.mod.kin J (tyY_looks I ry ht) hn h1 h2 ?_
  refine wpAny_mono (wpAny_call (run_fnR (us := [.ref a, u]) (vs := [.ref a, y]) h3.raw (hr.mono hk) pass0 I (.cons rfl (.cons ry .nil)) q)) (fun w s' z => ?_) fun _ _ x => x
  obtain ⟨z', H', I', rz, qz⟩ := z
  exact SlX.cmpback rz ⟨z', H', I', rz, qz⟩
/-- number op instance: the instance's own def for the op turned about -/
structure FRm (P : Program) (w : World) (K : PySem.W.Frag) (mg : Str → Option Value) (base : Heap) (cl : Nat → Addr) (k c : Nat) (op : CmpOp) (m : MF) : Prop where
  ok : ∃ g, PySem.W.findIn K (.ref (cl c)) (cmpInfo op).2.2 = some (some (.ref g)) ∧ PySem.W.isFn K (.ref g) = true ∧ FA P w K mg base cl k g 2 m
  sb : PySem.W.subIn K (.ref (cl c)) (.type "int") = some false
theorem FRm.cx {op : CmpOp} (S : FRm P w K mg base cl k c op mf) : FRm P w K mg base cl k c op (callX mf) := by
  obtain ⟨⟨g, h1, h2, h3⟩, h4⟩ := S
  exact ⟨⟨g, h1, h2, h3.x⟩, h4⟩
theorem cmpN {op : CmpOp} {idl : String} (hop : ∀ a b, compareOp op a b = richCompare op a b) (hl : Slot "int" (cmpInfo op).2.1 idl) (hd : Dec idl) (S : FRm X.prog X.w X.K X.mg X.base cl k c op mf) (hr : Room j X.A) (hk : k ≤ j) : CmpG X cl op (gNI c mf) := by
  obtain ⟨⟨g, h1, h2, h3⟩, h4⟩ := S
  refine ⟨rNI (cl c) (spM X.K cl 2 mf) E0, ?_, ?_⟩
  · intro pins s σ H x y v u Q I rx ry h
    obtain ⟨a, dx, vs, i, rfl, rfl, ha, q⟩ := h
    cases (show u = Value.ref a from ry)
    obtain ⟨t, rfl⟩ := (show ∃ t, v = Value.int i t from rx)
    obtain ⟨sl, od, _, J, _⟩ := SlX.slt_inst I ha
    obtain ⟨m, hF⟩ := I.fr
    rw [hop]
    refine cmp_R hr.units0 hF I.ok.mod.kin J h1 h2 hl hd h4 ?_
    refine wpAny_mono (wpAny_call (run_fnR (us := [.ref a, .int i t]) (vs := [.ref a, .int i]) h3.raw (hr.mono hk) pass0 I (.cons rfl (.cons ⟨t, rfl⟩ .nil)) q)) (fun w s' z => ?_) fun _ _ x => x
    obtain ⟨z', H', I', rz, qz⟩ := z
    exact SlX.cmpback rz ⟨z', H', I', rz, qz⟩
  · intro F α μ μ' H H0 x y rx ry z Q C q1 q2 hz kk
    unfold gNI at hz
    split at hz
    · rename_i i c2 ys
      split at hz
      · rename_i hc
        subst hc
        have hsp : spM X.K cl 2 mf [y, x] H Q E0 := ⟨F, α, μ, _, z, μ', rfl, C, .cons (argD q2) (.cons (argD q1) .nil), hz, kk⟩
        cases q2 with
        | ins hs1 hq1 hr1 =>
          cases q1
          exact ⟨_, _, _, _, rfl, rfl, Same.slt C.sub hs1, hsp⟩
      · cases hz
    · cases hz
end
end DL
set_option Elab.async false
set_option linter.all false
set_option maxRecDepth 100000
set_option maxHeartbeats 1000000

namespace DL
open PySem PySem.Spec PyProof.Rows L2
section
variable {X : Cx} {cl : Nat → Addr} {e o a b tg : Expr} {es : List Expr} {m mo ma mb : ME} {ms mk : MA} {pos p apos : Pos} {K : PySem.W.Frag} {f g C : Addr} {n np nk k j c : Nat} {mf : MF} {nm y : Str} {P : Program} {w : World} {mg : Str → Option Value} {base : Heap} {r r' : R2} {g1 g2 : G2}
structure FNe (P : Program) (w : World) (K : PySem.W.Frag) (mg : Str → Option Value) (base : Heap) (cl : Nat → Addr) (k c n : Nat) (m : MF) : Prop where
  eq : FCm P w K mg base cl k c n .Eq m
  ne : PySem.W.findIn K (.ref (cl c)) "__ne__" = some (some (.builtin "object.__ne__"))
  mr : PySem.W.mroIn K (cl c) (.type "object") = some true
theorem FNe.cx (S : FNe P w K mg base cl k c n mf) : FNe P w K mg base cl k c n (callX mf) := ⟨S.eq.cx, S.ne, S.mr⟩
@[simp] def gNe (c n : Nat) (f : MF) : G2
  | .dat (.ins c1 xs), y, μ => if c1 = c ∧ rhsOk n y = true then match f [.dat (.ins c1 xs), y] μ with
      | some (.dat (.bl b), μ') => some (.dat (.bl (!b)), μ')
      | _ => none
    else none
  | _, _, _ => none
def rNe' (K : PySem.W.Frag) (C : Addr) (sp : Sp) (E : XK) : R2 := fun x y H Q => ∃ a dx vs tb, x = .ref a ∧ SlX.Slt H a C dx vs ∧ TyY K H y tb ∧ PySem.W.notFirst K C tb = true ∧ sp [x, y] H (fun v H' => ∃ b, v = .bl b ∧ Q (.bl (!b)) H') E
theorem cmpNe (S : FNe X.prog X.w X.K X.mg X.base cl k c n mf) (hr : Room j X.A) (hk : k + 1 ≤ j) : CmpG X cl .NotEq (gNe c n mf) := by
  refine ⟨rNe' X.K (cl c) (spM X.K cl 2 mf) E0, ?_, ?_⟩
  · obtain ⟨⟨⟨g, h1, h2, h3⟩, _, _⟩, h4, h5⟩ := S
    intro pins s σ H x y v u Q I rx ry h
    obtain ⟨a, dx, vs, tb, rfl, ha, ht, hn, q⟩ := h
    cases (show v = Value.ref a from rx)
    obtain ⟨sl, od, _, J, _⟩ := SlX.slt_inst I ha
    obtain ⟨m, hF⟩ := I.fr
    have hr1 : Room (k + 1) X.A := hr.mono hk
    have hr2 : Room k X.A.in1 := hr1.in1
    refine cmp_ne (tb := tb) hr2.units0 hr1.units0 hF I.ok.mod.kin J (tyY_looks I ry ht) hn h4 h5 h1 h2 ?_
    refine wpAny_mono (wpAny_call (SlX.run_at (us := [.ref a, u]) (ws := [.ref a, y]) h3.raw hr2 I.env0.in1 pass0 I (.cons rfl (.cons ry .nil)) q)) (fun w s' z => ?_) fun _ _ x => x
    obtain ⟨z', H', I', rz, b, rfl, qz⟩ := z
    cases (show w = Value.bool b from rz)
    exact ⟨b, rfl, .bl (!b), H', I', rfl, qz⟩
  · intro F α μ μ' H H0 x y rx ry z Q C q1 q2 hz kk
    unfold gNe at hz
    split at hz
    · rename_i c1 xs
      split at hz
      · rename_i hc
        obtain ⟨rfl, hc⟩ := hc
        split at hz
        · rename_i b μ2 hb
          cases hz
          obtain ⟨tb, t1, t2, t3⟩ := rhs_ok S.eq C q2 hc
          have hsp : spM X.K cl 2 mf [x, y] H (fun v H' => ∃ b, v = .bl b ∧ Q (.bl (!b)) H') E0 := ⟨F, α, μ, _, _, μ', rfl, C, .cons (argD q1) (.cons t3 .nil), hb, fun v F' H' e1 c1 r1 => ⟨b, rep_bl r1, kk _ F' H' e1 c1 (.bl _)⟩⟩
          cases q1 with
          | ins hs1 hq1 hr1 => exact ⟨_, _, _, tb, rfl, Same.slt C.sub hs1, t1, t2, hsp⟩
        · cases hz
      · cases hz
    · cases hz

structure FP (P : Program) (w : World) (K : PySem.W.Frag) (mg : Str → Option Value) (base : Heap) (cl : Nat → Addr) (k c : Nat) (x : Str) (m : MF) : Prop where
  s : SlX.SCls K (cl c)
  ok : ∃ p g : Addr, PySem.W.findIn K (.ref (cl c)) x = some (some (.ref p)) ∧ PySem.W.specialIn K (.ref p) "__get__" = some (some (.builtin "property.__get__")) ∧ PySem.W.takesIn K (.ref p) = some true ∧ (∃ rest, PySem.W.recIn K p "property" = some (.ref g :: rest)) ∧ FA P w K mg base cl k g 1 m
theorem FP.cx {x : Str} (S : FP P w K mg base cl k c x mf) : FP P w K mg base cl k c x (callX mf) := by
  obtain ⟨s, p, g, h1, h2, h3, h4, h5⟩ := S
  exact ⟨s, p, g, h1, h2, h3, h4, h5.x⟩
@[simp] def mProp (c : Nat) (f : MF) (m : ME) : ME := fun δ μ => match m δ μ with
  | some (.dat (.ins c' xs), μ1) => if c' = c then f [.dat (.ins c' xs)] μ1 else none
  | _ => none
theorem se_prop {x : Str} (S : FP X.prog X.w X.K X.mg X.base cl k c x mf) (hr : Room j X.A) (hk : k + 1 ≤ j) (h : SE X cl e m) (hb : attributeBase e x X.env (eval e X.env) = eval e X.env := by rfl) : SE X cl (.Attribute e x pos) (mProp c mf m) := by
  obtain ⟨s, p, g, h1, h2, h3, h4, h5⟩ := S
  refine PE.weak (SlX.pe_propSl (E := E0) h s h1 h2 h3 h4 h5.raw (hr.mono hk) (fun H s e s' hq => hq.elim) hb) fun σ H Q ⟨F, α, δ, μ, z, μ', C, Ee, hm, kk⟩ => ?_
  unfold mProp at hm
  split at hm
  · rename_i c' xs μ1 e1
    split at hm
    · rename_i hc
      subst hc
      refine ⟨F, α, δ, μ, _, _, C, Ee, e1, fun v F1 H1 v1 d1 q1 => ?_⟩
      have hsp : spM X.K cl 1 mf [v] H1 Q E0 := ⟨F1, α, μ1, _, z, μ', rfl, d1, .cons (argD q1) .nil, hm, fun v F3 H3 e3 c3 r3 => kk v F3 H3 (v1.trans e3) c3 (r3.back v1.dom)⟩
      cases q1 with
      | ins hs hq hr => exact ⟨_, _, _, rfl, Same.slt d1.sub hs, hsp⟩
    · cases hm
  · cases hm

@[simp] def mPar3 (ci cj cl' : Bool) (i j l : Nat) (ma mb mc : ME) : MS := fun δ μ => match ma δ μ with
  | none => none
  | some (x, μ1) => match mb δ μ1 with
    | none => none
    | some (y, μ2) => match mc δ μ2 with
      | none => none
      | some (z, μ3) => match stR ci i x δ μ3 with
        | none => none
        | some (δ1, μ4) => match stR cj j y δ1 μ4 with
          | none => none
          | some (δ2, μ5) => match stR cl' l z δ2 μ5 with
            | none => none
            | some (δ3, μ6) => some (.nx δ3 μ6)
theorem ss_par3 {ci cj cl' : Bool} {i j l : Nat} {x y z : Str} {px py pz pt : Pos} {kt k2 : Nat} {pt2 : Pos} {a b d : Expr} {ma mb mc : ME} (hN : X.N.Nodup) (ha : SE X cl a ma) (hb : SE X cl b mb) (hd : SE X cl d mc) (hij : i ≠ j := by decide) (hil : i ≠ l := by decide) (hjl : j ≠ l := by decide) (hc : X.calm = true := by rfl) (hi : X.N[i]? = some x := by rfl) (hj : X.N[j]? = some y := by rfl) (hl : X.N[l]? = some z := by rfl)
    (hx : X.env.scope.names.lookup x = some .local := by rfl) (hy : X.env.scope.names.lookup y = some .local := by rfl) (hz : X.env.scope.names.lookup z = some .local := by rfl)
    (hw : swappedStores [.Tuple [.Name x px, .Name y py, .Name z pz] kt pt] (.Tuple [a, b, d] k2 pt2) X.env = pure (some [x, y, z]) := by rfl)
    (hs : swapsWithSole [.Tuple [.Name x px, .Name y py, .Name z pz] kt pt] (.Tuple [a, b, d] k2 pt2) pos.line X.env = pure false := by rfl)
    (ha1 : starEach (a :: [b, d]) X.env = (false, eval a X.env) :: starEach [b, d] X.env := by rfl) (hb1 : starEach (b :: [d]) X.env = (false, eval b X.env) :: starEach [d] X.env := by rfl) (hd1 : starEach (d :: []) X.env = (false, eval d X.env) :: starEach [] X.env := by rfl) :
    SS X cl (.Assign [.Tuple [.Name x px, .Name y py, .Name z pz] kt pt] (.Tuple [a, b, d] k2 pt2) pos) (mPar3 ci cj cl' i j l ma mb mc) := by
  refine PS.weak (ps_par3 hc hN hi hj hl hij hil hjl hx hy hz (pa_cons ha (pa_cons hb (pa_cons hd pa_nil hd1) hb1) ha1) hw hs) fun E σ H ⟨F, α, δ, μ, fl, C, Ee, hm, k⟩ => ?_
  unfold mPar3 at hm
  split at hm
  · cases hm
  rename_i r1 μ1 h1
  split at hm
  · cases hm
  rename_i r2 μ2 h2
  split at hm
  · cases hm
  rename_i r3 μ3 h3
  split at hm
  · cases hm
  rename_i δ1 μ4 h4
  split at hm
  · cases hm
  rename_i δ2 μ5 h5
  split at hm
  · cases hm
  rename_i δ3 μ6 h6
  cases hm
  refine ⟨F, α, δ, μ, r1, μ1, C, Ee, h1, fun v F1 H1 e1 c1 q1 => ⟨F1, α, δ, μ1, r2, μ2, c1, Ee.step e1, h2, fun w F2 H2 e2 c2 q2 => ⟨F2, α, δ, μ2, r3, μ3, c2, (Ee.step e1).step e2, h3, fun u F3 H3 e3 c3 q3 => ⟨v, w, u, rfl, ?_⟩⟩⟩⟩
  have e23 := e2.trans e3
  obtain ⟨F4, α4, e4, sm, ex, n1, n2, c4, en4⟩ := st_ok (e1.trans e23) c3 (((Ee.step e1).step e2).step e3) (q1.step e23) h4
  have q2' := ((q2.step e3).back e1.dom).other sm ex n1 n2 fun a hr hw => fr_ne q1 q2 hr hw
  have q3' := (q3.back (e1.trans e2).dom).other sm ex n1 n2 fun a hr hw => fr_ne (q1.step e2) q3 hr hw
  obtain ⟨F5, α5, e5, sm5, ex5, n15, n25, c5, en5⟩ := st_ok e4 c4 en4 q2' h5
  have q3'' := q3'.other sm5 ex5 n15 n25 fun a hr hw => fr_ne q2 q3 hr hw
  obtain ⟨F6, α6, e6, _, _, _, _, c6, en6⟩ := st_ok e5 c5 en5 q3'' h6
  exact k F6 α6 _ H3 e6 c6 en6
end
section
variable {X : Cx} {cl : Nat → Addr} {e o a b tg : Expr} {es : List Expr} {m mo ma mb : ME} {ms mk : MA} {pos p apos : Pos} {K : PySem.W.Frag} {f g C : Addr} {n np nk k j c : Nat} {mf : MF} {ks : List Str} {is : List Nat} {kws : List Keyword} {P : Program} {w : World} {mg : Str → Option Value} {base : Heap} {CX : CXT} {sp : Sp} {E : XK} {to : TE} {t tk : TA}

theorem callO_ofK {M : Model} {A : Around} {E : Value → Shared → Prop} {s : Shared} {a : Addr} {pos : Pos} {Q : Value → Shared → Prop} {args : List (Bool × Sem Value)} {kw : List (Option Str × Sem Value)} (hplain : (args.any (·.1) || kw.any (·.1.isNone)) = false)
    (h : wpAny M A (evalArgs (.ref a) true args kw) (fun z s₁ => (∃ C ox od, PySem.W.InstAt s₁.heap a ox C od ∧ ox.data = .plain) ∧ wpAny M A (call (.ref a) ([] ++ z.pos) z.kw) Q E s₁) E s) : wpAny M A (callWith pos (.ref a) [] args kw) Q E s := by
  unfold callWith
  refine wpAny_bind (wpAny_holding (wpAny_mono h (fun z s₁ h₁ => wpAny_bind (wpAny_standAt ?_)) fun _ _ y => y))
  obtain ⟨⟨C, ox, od, J, hd⟩, h₁⟩ := h₁
  have L := PySem.W.kco_keeper (M := M) J hd
  simp only [hplain]
  refine wpAny_bind (L.here ?_)
  have tail : ∀ {t : Sem Value}, wpAny M A t Q E s₁ → wpAny M A (t >>= fun r => holding [r] point >>= fun _ => pure r) Q E s₁ :=
    fun ht => wpAny_bind (wpAny_mono ht (fun r s₂ hr => wpAny_bind (wpAny_holding (wpAny_point (wpAny_pure hr)))) fun _ _ y => y)
  exact tail (wpAny_operateT h₁)
structure FCK (P : Program) (w : World) (K : PySem.W.Frag) (mg : Str → Option Value) (base : Heap) (cl : Nat → Addr) (k c : Nat) (n : Nat) (m : MF) (np : Nat) (ks : List Str) (is : List Nat) : Prop where
  ok : ∃ g, StX.CallO K (cl c) g ∧ FAK P w K mg base cl k g n m np ks is
theorem FCK.x (S : FCK P w K mg base cl k c n mf np ks is) : FCK P w K mg base cl k c n (callX mf) np ks is := by
  obtain ⟨g, h1, h2⟩ := S
  exact ⟨g, h1, h2.cx⟩
def tCallOK (C : Addr) (np nk : Nat) (sp : Sp) (gV : List V → List V → List V) (E : XK) (to : TE) (tk : TA) : TE := fun σ H Q => to σ H fun z H1 => ∃ a dx vs, z = .ref a ∧ SlX.Slt H1 a C dx vs ∧ tk σ H1 fun zs H3 => [z].length = np ∧ zs.length = nk ∧ (∃ dx vs, SlX.Slt H3 a C dx vs) ∧ sp (gV [z] zs) H3 Q E
theorem pe_callOK0 {fd : FuncData} {ps : List Str} {gg : List Value → List Value → List Value} {gV : List V → List V → List V} (ho : PE X o to) (c : StX.CallO X.K C g) (F : FnOk X.prog X.w X.K X.mg X.base CX k g fd ps sp) (hr : Room k X.A) (hb : KBn X.K fd ps 1 ks gg gV) (hx : Passes CX X E) (hkw : PK X kws tk)
    (hall : (backToKw pos (keywordEach kws X.env)).all (·.1.isSome) = true := by rfl) (hks : (backToKw pos (keywordEach kws X.env)).filterMap (·.1) = ks := by rfl)
    (hpl : ((backTo pos (starEach [] X.env)).any (·.1) || (backToKw pos (keywordEach kws X.env)).any (·.1.isNone)) = false := by rfl)
    (ht : eval (.Call o [] kws pos) X.env = (do callWith pos (← eval o X.env) [] (backTo pos (starEach [] X.env)) (backToKw pos (keywordEach kws X.env))) := by rfl) :
    PE X (.Call o [] kws pos) (tCallOK C 1 ks.length sp gV E to tk) := by
  refine ⟨fun pins s σ H Q I h => ?_⟩
  rw [ht]
  refine wpAny_bind (thn (ho.run pins s σ H _ I h) fun u s1 ⟨z, H1, I1, rx, a, dx, vs, ex, hsl, q⟩ => ?_)
  subst ex
  obtain rfl : u = Value.ref a := rx
  refine callO_ofK hpl (PyProof.Rows.evalArgs_kw2_nil hall (thn (hkw.run pos pins s1 σ H1 _ I1 q) fun ws s2 ⟨zs, H2, I2, rz, l1, l2, ⟨dx2, vs2, hi⟩, q2⟩ => ?_))
  obtain ⟨sl, od, _, J, _⟩ := SlX.slt_inst I2 hi
  rw [hks]
  refine ⟨⟨C, _, _, J, rfl⟩, ?_⟩
  have r1 : Vals [V.ref a] [Value.ref a] := .cons rfl .nil
  have r2 := hb.rel r1 rz
  refine wpAny_call (PySem.W.kco_code (a := ⟨[], ks.zip ws⟩) I2.kIn J rfl c.at_ c.fn c.fi (codeAny_mono (F.run X.A X.stack s2 H2 ⟨[.ref a], ks.zip ws⟩ (gg [.ref a] ws) (gV [.ref a] zs) Q E hr I2.env0 (hb.to s2 [.ref a] ws I2.kIn rfl (rz.length.symm.trans l2)) r2 q2) fun r s' hq => ?_))
  cases r with
  | error e => exact hx pins σ H2 s2 e s' I2 hq
  | ok fl =>
    cases fl with
    | ret u => exact I2.after hq
    | next => exact False.elim hq
    | brk => exact False.elim hq
    | cont => exact False.elim hq
theorem se_callOK0 (S : FCK X.prog X.w X.K X.mg X.base cl k c n mf 1 ks is) (hr : Room j X.A) (hk : k ≤ j) (ho : SE X cl o mo) (hkw : SK X cl kws mk) (hnk : ks.length = nk := by rfl)
    (hall : (backToKw pos (keywordEach kws X.env)).all (·.1.isSome) = true := by rfl) (hks : (backToKw pos (keywordEach kws X.env)).filterMap (·.1) = ks := by rfl)
    (hpl : ((backTo pos (starEach [] X.env)).any (·.1) || (backToKw pos (keywordEach kws X.env)).any (·.1.isNone)) = false := by rfl)
    (ht : eval (.Call o [] kws pos) X.env = (do callWith pos (← eval o X.env) [] (backTo pos (starEach [] X.env)) (backToKw pos (keywordEach kws X.env))) := by rfl) :
    SE X cl (.Call o [] kws pos) (mMethK c mf 1 nk is mo mNil mk) := by
  subst hnk
  obtain ⟨g, h1, ⟨fd, ps, F, hb⟩, hkp, ar⟩ := S
  refine PE.weak (pe_callOK0 ho h1 F (hr.mono hk) hb pass0 hkw hall hks hpl ht) fun σ H Q ⟨F, α, δ, μ, z, μ', C, Ee, hm, kk⟩ => ?_
  unfold mMethK at hm
  split at hm
  · rename_i c' xs μ1 g1
    split at hm
    · rename_i hc
      split at hm
      · rename_i rs μ2 g2
        cases g2
        split at hm
        · rename_i zs μ3 g3
          split at hm
          · rename_i hl
            subst hc
            refine ⟨F, α, δ, μ, _, _, C, Ee, g1, fun v F1 H1 e1 c1 q1 => ?_⟩
            cases q1 with
            | ins hs hq hr =>
              refine ⟨_, _, _, rfl, Same.slt c1.sub hs, F1, α, δ, μ1, zs, μ3, c1, Ee.step e1, g3, fun us F3 H3 e3 c3 q3 => ⟨rfl, by rw [q3.length]; exact hl.2, ⟨_, _, Same.slt c3.sub (Same.slt e3.ff hs)⟩, ?_⟩⟩
              have r0 : ArgR X.K cl F3 α _ (.dat (.ins c' xs)) := Rep.mono e3.ff (.ins hs hq hr)
              have q4 := ((ArgRs.cons r0 .nil).append q3).pick is
              exact ⟨F3, α, μ3, _, z, μ', by rw [q4.length, ar _ _ _ hm], c3, q4, hm, fun v F4 H4 e4 c4 r4 => kk v F4 H4 ((e1.trans e3).trans e4) c4 (r4.back (e1.trans e3).dom)⟩
          · cases hm
        · cases hm
      · cases hm
    · cases hm
  · cases hm
end
end DL
set_option Elab.async false
set_option linter.all false
set_option maxRecDepth 100000
set_option maxHeartbeats 1000000

namespace DL
open PySem PySem.Spec PyProof.Rows L2
section
variable {X : Cx} {cl : Nat → Addr} {e o a b tg : Expr} {es : List Expr} {m mo ma mb : ME} {ms mk : MA} {pos p apos : Pos} {K : PySem.W.Frag} {n k j c : Nat}
/-- (a, b, ..) = a tuple or a list of that length -/
def gSeq (K : PySem.W.Frag) (n : Nat) (t : TGs) : TG := fun v σ H Q => ∃ a xs, v = .ref a ∧ (SqT K H a xs ∨ SqL K H a xs) ∧ xs.length = n ∧ t xs σ H Q
theorem pg_seq {es : List Expr} {k : Nat} {t : TGs} {n : Nat} (hc : X.calm = true) (h : PGs X es t)
    (hn : (assignEach es X.env).length = n := by rfl) (hst : (assignEach es X.env).findIdx? (·.1) = none := by rfl) : PG X (.Tuple es k pos) (gSeq X.K n t) := by
  refine ⟨fun pins s σ H v u Q I r hw => ?_⟩
  obtain ⟨a, xs, e1, hq | hq, hl, hw⟩ := hw
  · exact (pg_tup hc h hn hst).run pins s σ H v u Q I r ⟨a, xs, e1, hq, hl, hw⟩
  · subst e1
    cases r
    obtain ⟨its, rv, ⟨o, nn, ht, h1, h2, h3⟩, hz⟩ := I.list hq
    have hL : s.heap.IsList a its.toArray := ⟨o, ht, h1, nn, h3⟩
    have hlen : its.toArray.size = n := by simp [← hl, rv.length]
    rw [arm_assign_Tuple]
    refine wpAny_bind (wpAny_standAt ?_)
    unfold unpack
    rw [hst, hn, ← hlen]
    refine wpAny_bind (wpAny_holding (PySem.W.kun_itemsOf (I.ok.hd hc) hL fun h' hx => ?_))
    have I1 : L2.Inv X pins σ H { s with heap := h' } := I.kept (t' := s.toks) fun b o e => hx b o (Nat.ne_of_lt (Heap.lt_size e)) e
    exact h.run pins _ σ H xs _ Q I1 (by simpa using rv) hw
@[simp] def tgAll : List TGT → List D → Sl → Option Sl
  | [], [], δ => some δ
  | t :: ts, x :: xs, δ => match t x δ with
    | some δ1 => tgAll ts xs δ1
    | none => none
  | _, _, _ => none
@[simp] def tgTup (ts : List TGT) : TGT := fun d δ => match d with
  | .tup xs => tgAll ts xs δ
  | .lst xs => tgAll ts xs δ
  | _ => none
def TgsSem (K : PySem.W.Frag) (cl : Nat → Addr) (g : TGs) (ts : List TGT) (vs : List Nat) : Prop := ∀ (F : Hp) (α : List Addr) (σ : L2.St) (δ δ' : Sl) (H : Hp) (us : List V) (ds : List D) (Q : L2.St → Hp → Prop), Same F H → EnvOk K cl F α σ δ → Reps K cl F us ds → tgAll ts ds δ = some δ' →
  (∀ σ', EnvOk K cl F α σ' δ' → wipe σ' vs = wipe σ vs → Q σ' H) → g us σ H Q
abbrev SGs (X : Cx) (cl : Nat → Addr) (es : List Expr) (g : TGs) (ts : List TGT) (vs : List Nat) : Prop := PGs X es g ∧ TgsSem X.K cl g ts vs
theorem sgs_nil {vs : List Nat} : SGs X cl [] gNil [] vs := by
  refine ⟨pgs_nil, fun F α σ δ δ' H us ds Q sm en hv ht k => ?_⟩
  cases hv with
  | nil =>
    cases ht
    exact ⟨rfl, k σ en rfl⟩
  | cons _ _ => cases ht
theorem sgs_cons {vs : List Nat} {g : TG} {gs : TGs} {t : TGT} {ts : List TGT} (h : SG X cl e g t vs) (hs : SGs X cl es gs ts vs) (hx : (assignEach (e :: es) X.env).map (·.2) = assign e X.env :: (assignEach es X.env).map (·.2) := by rfl) : SGs X cl (e :: es) (gCons g gs) (t :: ts) vs := by
  refine ⟨pgs_cons h.1 hs.1 hx, fun F α σ δ δ' H us ds Q sm en hv ht k => ?_⟩
  cases hv with
  | nil => cases ht
  | cons r q =>
    unfold tgAll at ht
    split at ht
    · rename_i δ1 h1
      exact ⟨_, _, rfl, h.2 F α σ δ δ1 H _ _ _ sm en r h1 fun σ1 en1 w1 => hs.2 F α σ1 δ1 δ' H _ _ _ sm en1 q ht fun σ2 en2 w2 => k σ2 en2 (w2.trans w1)⟩
    · cases ht
theorem tgAll_len : ∀ {ts : List TGT} {ds : List D} {δ δ' : Sl}, tgAll ts ds δ = some δ' → ds.length = ts.length
  | [], [], _, _, _ => rfl
  | [], _ :: _, _, _, h => by cases h
  | _ :: _, [], _, _, h => by cases h
  | t :: ts, d :: ds, δ, δ', h => by
    unfold tgAll at h
    split at h
    · rw [List.length_cons, List.length_cons, tgAll_len h]
    · cases h
theorem sg_tup {vs : List Nat} {gs : TGs} {ts : List TGT} {kk : Nat} (h : SGs X cl es gs ts vs) (hc : X.calm = true := by rfl) (hn : (assignEach es X.env).length = ts.length := by rfl) (hst : (assignEach es X.env).findIdx? (·.1) = none := by rfl) : SG X cl (.Tuple es kk pos) (gSeq X.K ts.length gs) (tgTup ts) vs := by
  refine ⟨pg_seq hc h.1 hn hst, fun F α σ δ δ' H v d Q sm en hv ht k => ?_⟩
  unfold tgTup at ht
  split at ht
  · cases hv with
    | tup q1 q2 => exact ⟨_, _, rfl, .inl (Same.sqT sm q1), by rw [q2.length]; exact tgAll_len ht, h.2 F α σ δ δ' H _ _ Q sm en q2 ht k⟩
  · cases hv with
    | lst q1 q2 => exact ⟨_, _, rfl, .inr (SqL.of (sm _ _ q1)), by rw [q2.length]; exact tgAll_len ht, h.2 F α σ δ δ' H _ _ Q sm en q2 ht k⟩
  · cases ht
end
end DL
namespace DL
open PySem
theorem notFirst_of {K : PySem.W.Frag} {C : Addr} {tb : Value} (h : PySem.W.subIn K tb (.ref C) = some false) : PySem.W.notFirst K C tb = true := by
  unfold PySem.W.notFirst
  rw [h]
  simp
theorem notFirst_self {K : PySem.W.Frag} {C : Addr} : PySem.W.notFirst K C (.ref C) = true := by
  unfold PySem.W.notFirst
  simp
end DL
namespace DL
open PySem PySem.Spec PyProof.Rows L2
theorem fund_kb {K : PySem.W.Frag} {x qual : Str} {st : Stmt} {dvs : List V} {f : Addr} {fd : FuncData} {ps ks : List Str} {np : Nat} {is : List Nat} (F : FunX K x qual st dvs f fd)
    (h : ∀ (T : Addr) (kV doc pm : Value) (an : Option Addr) (cdv ct : Value) (us its ws : List Value), us.length = np → its.length = dvs.length → ws.length = ks.length →
      ∃ k, bindArgs (PySem.W.fnOf x qual (defArgs st) (defBody st) (defScope st) (.ref T) kV doc pm an cdv ct) ⟨us, ks.zip ws⟩ = seqItems? (.ref T) >>= k ∧ k (some its.toArray) = pure (ps.zip (pick is (us ++ ws)))) (hd : dvs ≠ [] := by simp) :
    KBn K fd ps np ks (fun us ws => pick is (us ++ ws)) (fun us ws => pick is (us ++ ws)) := by
  obtain ⟨oc, od, dV, kV, doc, pm, an, cdv, ct, osl, rfl, lk, hcd, hD, hK⟩ := F.ex
  rcases hD with ⟨e, _⟩ | ⟨_, T, o, its, m, rfl, lT, oT, rT⟩
  · exact absurd e hd
  · refine ⟨fun s us ws X l1 l2 => ?_, fun r q => ?_⟩
    · obtain ⟨k, h1, h2⟩ := h T kV doc pm an cdv ct us its ws l1 rT.length.symm l2
      exact PySem.W.binds_K X rfl lT oT h1 h2
    · exact vals_pick (Vals.append r q) is
end DL
namespace DL
open PySem
theorem isc_of {K : PySem.W.Frag} {cl : Nat → Addr} {c d : Nat} (h : cl c = cl d) (q : IsC K cl d) : IsC K cl c := by
  obtain ⟨a1, a2, a3, a4, a5, a6, a7⟩ := q
  rw [← h] at a1 a2 a3 a4 a5 a6 a7
  exact ⟨a1, a2, a3, a4, a5, a6, a7⟩
end DL
set_option Elab.async false
set_option linter.all false
set_option maxRecDepth 100000
set_option maxHeartbeats 1000000

namespace DL
open PySem PySem.Spec PyProof.Rows L2
mutual
def lfree : D → Bool
  | .non => true
  | .bl _ => true
  | .int _ => true
  | .str _ => true
  | .tup xs => lfrees xs
  | .lst _ => false
  | .scr _ => false
  | .ins _ xs => lfrees xs
def lfrees : List D → Bool
  | [] => true
  | x :: xs => lfree x && lfrees xs
end
@[simp] def lfR : R → Bool
  | .dat d => lfree d
  | .fr xs => lfrees xs
  | _ => false
/-- the arguments at some places, where they are cells, as data; and which cells that were -/
@[simp] def viewAt (μ : Mu) : List Bool → List R → Option (List R × List Nat)
  | true :: ps, .cel k :: rs => match μ[k]?, viewAt μ ps rs with
    | some (.l xs), some (rs', ks) => some (.dat (.lst xs) :: rs', k :: ks)
    | _, _ => none
  | _ :: ps, r :: rs => match viewAt μ ps rs with
    | some (rs', ks) => some (r :: rs', ks)
    | none => none
  | _, [] => some ([], [])
  | [], _ => none
@[simp] def callV (ps : List Bool) (f : MF) : MF := fun rs μ => match viewAt μ ps rs with
  | none => none
  | some (rs', ks) => match cellsIn rs' with
    | [] => match f rs' [] with
      | some (r, []) => if lfR r = true then some (r, μ) else none
      | _ => none
    | [k] => if ks.contains k then none else match μ[k]? with
      | some (.l xs) => match f (reCel rs') [.l xs] with
        | some (r, [.l ys]) => if lfR r && lfrees ys then some (r, μ.set k (.l ys)) else none
        | _ => none
      | _ => none
    | _ => none
section
variable {K : PySem.W.Frag} {cl : Nat → Addr}
def cutF (F : Hp) (V : List Addr) : Hp := fun b => if b ∈ V then none else F b
theorem cutF_out {F : Hp} {V : List Addr} {b : Addr} (h : b ∉ V) : cutF F V b = F b := if_neg h
theorem cutF_in {F : Hp} {V : List Addr} {b : Addr} (h : b ∈ V) : cutF F V b = none := if_pos h
theorem cutF_some {F : Hp} {V : List Addr} {b : Addr} {o : HO} (h : cutF F V b = some o) : b ∉ V ∧ F b = some o := by
  unfold cutF at h
  split at h
  · cases h
  · exact ⟨by assumption, h⟩
mutual
theorem rep_cut {F : Hp} {W : List Addr} (hV : ∀ b ∈ W, ∃ us, F b = some (.lst us)) : ∀ {v : V} {d : D}, Rep K cl F v d → lfree d = true → Rep K cl (cutF F W) v d
  | _, _, .non, _ => .non
  | _, _, .bl b, _ => .bl b
  | _, _, .int i, _ => .int i
  | _, _, .str x, _ => .str x
  | _, _, .tup h r, l => by
    refine .tup ?_ (reps_cut hV r l)
    rcases h with (h | ⟨o, h⟩) | h
    · refine .inl (.inl ?_)
      rw [cutF_out fun z => ?_]
      · exact h
      · obtain ⟨us, e⟩ := hV _ z
        rw [h] at e
        cases e
    · refine .inl (.inr ⟨o, ?_⟩)
      rw [cutF_out fun z => ?_]
      · exact h
      · obtain ⟨us, e⟩ := hV _ z
        rw [h] at e
        cases e
    · exact .inr h
  | _, _, .lst h r, l => by cases l
  | _, _, .scr h, l => by cases l
  | _, _, .ins (dx := dx) h q r, l => by
    have nn : ∀ {b : Addr} {o : HO}, F b = some o → (∀ us, o ≠ .lst us) → cutF F W b = some o := fun {b o} h1 h2 => by
      rw [cutF_out fun z => ?_]
      · exact h1
      · obtain ⟨us, e⟩ := hV _ z
        rw [h1] at e
        cases e
        exact h2 _ rfl
    refine .ins ?_ (nn q fun us z => by unfold SlX.SlO at z; cases z) (reps_cut hV r l)
    rcases h with ⟨h1, h2⟩ | ⟨h1, h2⟩
    · exact .inl ⟨nn h1 (fun us z => by cases z), h2⟩
    · exact .inr ⟨nn h1 (fun us z => by unfold SlX.SlO at z; cases z), nn h2 (fun us z => by cases z)⟩
theorem reps_cut {F : Hp} {W : List Addr} (hV : ∀ b ∈ W, ∃ us, F b = some (.lst us)) : ∀ {vs : List L2.V} {ds : List D}, Reps K cl F vs ds → lfrees ds = true → Reps K cl (cutF F W) vs ds
  | _, _, .nil, _ => .nil
  | _, _, .cons r q, l => by
    have l' := Bool.and_eq_true_iff.mp (show (lfree _ && lfrees _) = true from l)
    exact .cons (rep_cut hV r l'.1) (reps_cut hV q l'.2)
end
/-- the frozen part with some cells frozen too -/
def viewF (F H : Hp) (W : List Addr) : Hp := fun b => if b ∈ W then H b else F b
theorem viewF_out {F H : Hp} {W : List Addr} {b : Addr} (h : b ∉ W) : viewF F H W b = F b := if_neg h
theorem viewF_in {F H : Hp} {W : List Addr} {b : Addr} (h : b ∈ W) : viewF F H W b = H b := if_pos h
theorem view_args {F H : Hp} {α : List Addr} {μ : Mu} (C : Conc K cl F α μ H) {W : List Addr} (hW : ∀ b ∈ W, b ∈ α) : ∀ {ps : List Bool} {vs : List V} {rs rs' : List R} {ks : List Nat}, ArgRs K cl F α vs rs → viewAt μ ps rs = some (rs', ks) → (∀ k ∈ ks, ∀ a, α[k]? = some a → a ∈ W) → ArgRs K cl (viewF F H W) α vs rs' := by
  have sm : Same F (viewF F H W) := fun b o h => by
    rw [viewF_out fun z => ?_]
    · exact h
    · rw [C.out b (hW b z)] at h
      cases h
  have stay : ∀ {v : V} {r : R}, ArgR K cl F α v r → ArgR K cl (viewF F H W) α v r := fun {v r} h => by
    cases r with
    | no => exact h
    | dat d => exact Rep.mono sm h
    | cel k => exact h
    | fr xs => exact h
    | fc c => exact h
  intro ps
  induction ps with
  | nil =>
    intro vs rs rs' ks ha h hk
    cases ha with
    | nil =>
      cases h
      exact .nil
    | cons _ _ => simp [viewAt] at h
  | cons p ps ih =>
    intro vs rs rs' ks ha h hk
    cases ha with
    | nil =>
      simp [viewAt] at h
      obtain ⟨rfl, rfl⟩ := h
      exact .nil
    | cons r q =>
      rename_i v r0 vs rs
      have other : (∀ k, ¬ (p = true ∧ r0 = .cel k)) → viewAt μ (p :: ps) (r0 :: rs) = match viewAt μ ps rs with
        | some (rs', ks) => some (r0 :: rs', ks)
        | none => none := fun hn => by
        cases p with
        | false => rfl
        | true => cases r0 with
          | cel k => exact absurd ⟨rfl, rfl⟩ (hn k)
          | no => rfl
          | dat d => rfl
          | fr xs => rfl
          | fc c => rfl
      by_cases hc : ∃ k, p = true ∧ r0 = .cel k
      · obtain ⟨k, rfl, rfl⟩ := hc
        unfold viewAt at h
        split at h
        · rename_i xs rs2 ks2 e1 e2
          cases h
          obtain ⟨a, h1, rfl⟩ := r
          obtain ⟨us, h2, h3⟩ := C.cell k a _ h1 e1
          refine .cons (show Rep K cl _ _ _ from .lst (vs := us) ?_ (h3.mono sm)) (ih q e2 fun k' hk' => hk k' (List.mem_cons_of_mem _ hk'))
          rw [viewF_in (hk k List.mem_cons_self a h1)]
          exact h2
        · cases h
      · rw [other fun k z => hc ⟨k, z⟩] at h
        split at h
        · rename_i rs2 ks2 e2
          cases h
          exact .cons (stay r) (ih q e2 hk)
        · cases h
theorem viewAt_l {μ : Mu} : ∀ {ps : List Bool} {rs rs' : List R} {ks : List Nat}, viewAt μ ps rs = some (rs', ks) → ∀ k ∈ ks, ∃ xs, μ[k]? = some (.l xs) := by
  intro ps
  induction ps with
  | nil =>
    intro rs rs' ks h
    cases rs with
    | nil =>
      cases h
      intro k hk
      cases hk
    | cons r rs => simp [viewAt] at h
  | cons p ps ih =>
    intro rs rs' ks h
    cases rs with
    | nil =>
      simp [viewAt] at h
      obtain ⟨rfl, rfl⟩ := h
      intro k hk
      cases hk
    | cons r0 rs =>
      have other : (match viewAt μ ps rs with
        | some (rs', ks) => some (r0 :: rs', ks)
        | none => none) = some (rs', ks) → ∀ k ∈ ks, ∃ xs, μ[k]? = some (.l xs) := fun h => by
        split at h
        · rename_i rs2 ks2 e2
          cases h
          exact ih e2
        · cases h
      cases p with
      | false => exact other h
      | true => cases r0 with
        | no => exact other h
        | dat d => exact other h
        | fr xs => exact other h
        | fc c => exact other h
        | cel k =>
          unfold viewAt at h
          split at h
          · rename_i xs rs2 ks2 e1 e2
            cases h
            intro j hj
            rcases List.mem_cons.mp hj with rfl | hj
            · exact ⟨xs, e1⟩
            · exact ih e2 j hj
          · cases h
theorem callV_sp {n : Nat} {ps : List Bool} {f : MF} {vs : List V} {H : Hp} {Q : VK} {E : XK} (h : spM K cl n (callV ps f) vs H Q E) : spM K cl n f vs H Q E := by
  obtain ⟨F, α, μ, rs, r, μ', hl, C, ha, hm, k⟩ := h
  unfold callV at hm
  split at hm
  · cases hm
  rename_i rs' ks hv
  let W : List Addr := ks.filterMap fun k => α[k]?
  have hW : ∀ b ∈ W, b ∈ α := fun b hb => by
    obtain ⟨k, _, hk⟩ := List.mem_filterMap.mp hb
    exact List.mem_of_getElem? hk
  have hkW : ∀ k ∈ ks, ∀ a, α[k]? = some a → a ∈ W := fun k hk a ha => List.mem_filterMap.mpr ⟨k, hk, ha⟩
  have va := view_args C hW ha hv hkW
  have sm : Same F (viewF F H W) := fun b o h => by
    rw [viewF_out fun z => ?_]
    · exact h
    · rw [C.out b (hW b z)] at h
      cases h
  have sub : Same (viewF F H W) H := fun b o h => by
    by_cases z : b ∈ W
    · rw [viewF_in z] at h
      exact h
    · rw [viewF_out z] at h
      exact C.sub b o h
  have new : ∀ b, H b = none → b ∉ α := fun b hb z => by
    obtain ⟨ws, g7⟩ := cell_some C z
    rw [hb] at g7
    cases g7
  -- what holds behind the call, whatever cells it was handed
  have back : ∀ (β : List Addr) (F' H' : Hp), (∀ b ∈ β, b ∈ α ∧ b ∉ W) → Evo (viewF F H W) β H F' β H' → Same F' H' →
      Same F (cutF F' W) ∧ (∀ b o, F b = none → cutF F' W b = some o → H b = none) ∧ (∀ b, b ∈ α → cutF F' W b = none) ∧ (∀ b ∈ W, ∃ us, F' b = some (.lst us)) ∧ Same (cutF F' W) H' := by
    intro β F' H' hβ e sm'
    refine ⟨fun b o h => ?_, fun b o h q => ?_, fun b hb => ?_, fun b hb => ?_, fun b o h => sm' b o (cutF_some h).2⟩
    · rw [cutF_out fun z => ?_]
      · exact e.ff b o (sm b o h)
      · rw [C.out b (hW b z)] at h
        cases h
    · obtain ⟨q1, q2⟩ := cutF_some q
      exact e.fre b o (by rw [viewF_out q1]; exact h) q2
    · by_cases z : b ∈ W
      · exact cutF_in z
      · rw [cutF_out z]
        cases q : F' b with
        | none => rfl
        | some o =>
          obtain ⟨us, h⟩ := cell_some C hb
          have := e.fre b o (by rw [viewF_out z]; exact C.out b hb) q
          rw [h] at this
          cases this
    · obtain ⟨k', hk', e'⟩ := List.mem_filterMap.mp hb
      obtain ⟨xs, hx⟩ := viewAt_l hv k' hk'
      obtain ⟨us, h, _⟩ := C.cell k' b _ e' hx
      exact ⟨us, e.ff b _ (by rw [viewF_in hb]; exact h)⟩
  split at hm
  · rename_i e0
    split at hm
    · rename_i r1 h1
      split at hm
      · rename_i hp
        cases hm
        refine ⟨viewF F H W, [], [], rs', r, [], hl, ⟨sub, rfl, List.nodup_nil, fun _ _ _ h => by simp at h, fun _ h => by simp at h⟩, args_none va e0, h1, fun v F' H' e c q => ?_⟩
        obtain ⟨b1, b2, b3, b4, b5⟩ := back [] F' H' (by simp) e c.sub
        refine k v (cutF F' W) H' ⟨b1, ⟨[], by simp⟩, fun b o hb _ => e.hh b o hb (by simp), e.dom, b2, fun b hb z => absurd hb z⟩ ⟨b5, C.len, C.nd, fun j b xs q1 q2 => ?_, b3⟩ ?_
        · have g := C.cell j b xs q1 q2
          obtain ⟨u, g1⟩ := g.some
          rw [e.hh b _ g1 (by simp), ← g1]
          exact g.monoF b1
        · cases r with
          | dat d => exact rep_cut b4 q hp
          | fr xs =>
            obtain ⟨a, us, g1, g2, g3, g4, g5, g6⟩ := q
            refine ⟨a, us, g1, g2, ?_, new a g2, g5, reps_cut b4 g6 hp⟩
            unfold cutF
            split
            · rfl
            · exact g3
          | no => cases hp
          | fc c => cases hp
          | cel j => cases hp
      · cases hm
    · cases hm
  · rename_i j e0
    split at hm
    · cases hm
    rename_i hj0
    split at hm
    · rename_i xs e1
      split at hm
      · rename_i r1 ys h1
        split at hm
        · rename_i hp
          cases hm
          obtain ⟨hp1, hp2⟩ := Bool.and_eq_true_iff.mp hp
          have hj : j < α.length := by rw [C.len]; exact (List.getElem?_eq_some_iff.mp e1).1
          have ja : α[j]? = some α[j] := List.getElem?_eq_getElem hj
          have jin : α[j] ∈ α := List.getElem_mem hj
          have jW : α[j] ∉ W := fun z => by
            obtain ⟨k', hk', e'⟩ := List.mem_filterMap.mp z
            have := nd_ix C.nd ja e'
            subst this
            exact hj0 (List.contains_iff_mem.mpr hk')
          refine ⟨viewF F H W, [α[j]], [.l xs], reCel rs', r, [.l ys], hl, ⟨sub, rfl, by simp, fun i b zs q1 q2 => ?_, fun b hb => ?_⟩, args_one ja va (fun i hi => by rw [e0] at hi; simpa using hi), h1, fun v F' H' e c q => ?_⟩
          · cases i with
            | zero =>
              simp at q1 q2
              subst q1 q2
              obtain ⟨us, g1, g2⟩ := C.cell j _ _ ja e1
              exact ⟨us, g1, g2.mono sm⟩
            | succ i => simp at q1
          · rw [List.mem_singleton.mp hb, viewF_out jW]
            exact C.out _ jin
          · obtain ⟨b1, b2, b3, b4, b5⟩ := back [α[j]] F' H' (fun b hb => by rw [List.mem_singleton.mp hb]; exact ⟨jin, jW⟩) e c.sub
            refine k v (cutF F' W) H' ⟨b1, ⟨[], by simp⟩, fun b o hb nb => e.hh b o hb (fun z => nb (by rw [List.mem_singleton.mp z]; exact jin)), e.dom, b2, fun b hb z => absurd hb z⟩ ⟨b5, by simp [C.len], C.nd, fun i b zs q1 q2 => ?_, b3⟩ ?_
            · by_cases hij : j = i
              · subst hij
                rw [ja] at q1
                cases q1
                rw [List.getElem?_set_self (by rw [← C.len]; exact hj)] at q2
                cases q2
                obtain ⟨us, g1, g2⟩ := c.cell 0 _ _ rfl rfl
                exact ⟨us, g1, reps_cut b4 g2 hp2⟩
              · rw [List.getElem?_set_ne hij] at q2
                have g := C.cell i b zs q1 q2
                obtain ⟨u, g1⟩ := g.some
                rw [e.hh b _ g1 (fun z => hij ?_), ← g1]
                · exact g.monoF b1
                · rw [List.mem_singleton.mp z] at q1
                  exact nd_ix C.nd ja q1
            · cases r with
              | dat d => exact rep_cut b4 q hp1
              | fr xs =>
                obtain ⟨a, us, g1, g2, g3, g4, g5, g6⟩ := q
                refine ⟨a, us, g1, g2, ?_, new a g2, g5, reps_cut b4 g6 hp1⟩
                unfold cutF
                split
                · rfl
                · exact g3
              | no => cases hp1
              | fc c => cases hp1
              | cel j => cases hp1
        · cases hm
      · cases hm
    · cases hm
  · cases hm
theorem viewAt_len {μ : Mu} : ∀ {ps : List Bool} {rs rs' : List R} {ks : List Nat}, viewAt μ ps rs = some (rs', ks) → rs'.length = rs.length := by
  intro ps
  induction ps with
  | nil =>
    intro rs rs' ks h
    cases rs with
    | nil => cases h; rfl
    | cons _ _ => simp [viewAt] at h
  | cons p ps ih =>
    intro rs rs' ks h
    cases rs with
    | nil =>
      simp [viewAt] at h
      rw [h.1]
    | cons r rs =>
      cases p with
      | true =>
        cases r with
        | cel k =>
          dsimp only [viewAt] at h
          split at h
          · rename_i e
            cases h
            simp [ih e]
          · cases h
        | no =>
          dsimp only [viewAt] at h
          split at h
          · rename_i e
            cases h
            simp [ih e]
          · cases h
        | dat d =>
          dsimp only [viewAt] at h
          split at h
          · rename_i e
            cases h
            simp [ih e]
          · cases h
        | fc c =>
          dsimp only [viewAt] at h
          split at h
          · rename_i e
            cases h
            simp [ih e]
          · cases h
        | fr xs =>
          dsimp only [viewAt] at h
          split at h
          · rename_i e
            cases h
            simp [ih e]
          · cases h
      | false =>
        dsimp only [viewAt] at h
        split at h
        · rename_i e
          cases h
          simp [ih e]
        · cases h
theorem callV_ar {n : Nat} {ps : List Bool} {f : MF} (ar : ∀ rs μ z, f rs μ = some z → rs.length = n) : ∀ rs μ z, callV ps f rs μ = some z → rs.length = n := fun rs μ z h => by
  unfold callV at h
  split at h
  · cases h
  rename_i rs' ks hv
  rw [← viewAt_len hv]
  split at h
  · split at h
    · rename_i h1
      exact ar _ _ _ h1
    · cases h
  · split at h
    · cases h
    split at h
    · split at h
      · rename_i h1
        rw [← reCel_length]
        exact ar _ _ _ h1
      · cases h
    · cases h
  · cases h
variable {P : Program} {w : World} {mg : Str → Option Value} {base : Heap} {k n c np : Nat} {x : Str} {m : MF} {ps : List Bool} {ks : List Str} {is : List Nat} {f : Addr}
theorem FS.v (S : FS P w K mg base cl k x n m) (ps : List Bool) : FS P w K mg base cl k x n (callV ps m) := by
  obtain ⟨⟨f, fd, qs, F, h⟩, ar⟩ := S
  exact ⟨⟨f, fd, qs, F.imp fun vs H Q E h => callV_sp h, h⟩, callV_ar ar⟩
theorem FK.v (S : FK P w K mg base cl k x n m np ks is) (ps : List Bool) : FK P w K mg base cl k x n (callV ps m) np ks is := by
  obtain ⟨⟨f, fd, qs, F, h⟩, ar⟩ := S
  exact ⟨⟨f, fd, qs, F.imp fun vs H Q E h => callV_sp h, h⟩, callV_ar ar⟩
end
end DL
set_option Elab.async false
set_option linter.all false
set_option maxRecDepth 100000
set_option maxHeartbeats 1000000

namespace DL
open PySem PySem.Spec PyProof.Rows L2
structure FIK (P : Program) (w : World) (K : PySem.W.Frag) (mg : Str → Option Value) (base : Heap) (cl : Nat → Addr) (k c : Nat) (x : Str) (n : Nat) (mi : MIn) (np : Nat) (ks : List Str) (is : List Nat) : Prop where
  ok : ∃ (f : Addr) (fd : FuncData) (ps : List Str), Mk K (cl c) f ∧ FnOk P w K mg base CX0 k f fd ps (spI K cl c n mi) ∧ mg x = some (.ref (cl c)) ∧ KBn K fd ps (np + 1) ks (fun us ws => pick (0 :: is.map (· + 1)) (us ++ ws)) (fun us ws => pick (0 :: is.map (· + 1)) (us ++ ws))
  ar : ∀ rs μ z, mi rs μ = some z → rs.length + 1 = n
@[simp] def mMakeK (c : Nat) (mi : MIn) (np nk : Nat) (is : List Nat) (ms mk : MA) : ME := fun δ μ => match ms δ μ with
  | none => none
  | some (rs, μ1) => match mk δ μ1 with
    | none => none
    | some (zs, μ2) => if rs.length = np ∧ zs.length = nk then match mi (pick is (rs ++ zs)) μ2 with
        | none => none
        | some (ds, μ3) => some (.dat (.ins c ds), μ3)
      else none
theorem pick_shift {β : Type} (a : β) (l : List β) (is : List Nat) : pick (0 :: is.map (· + 1)) (a :: l) = a :: pick is l := by
  unfold pick
  rw [List.filterMap_cons]
  simp only [List.getElem?_cons_zero]
  congr 1
  rw [List.filterMap_map]
  rfl
section
variable {X : Cx} {cl : Nat → Addr} {e o a b tg : Expr} {es : List Expr} {m mo ma mb : ME} {ms mk : MA} {pos p apos : Pos} {K : PySem.W.Frag} {f g C : Addr} {n np nk k j c : Nat} {mf : MF} {mi : MIn} {ks : List Str} {is : List Nat} {kws : List Keyword} {P : Program} {w : World} {mg : Str → Option Value} {base : Heap} {nm : Str}
theorem se_makeK0 (S : FIK X.prog X.w X.K X.mg X.base cl k c nm n mi 0 ks is) (hr : Room j X.A) (hk : k + 1 ≤ j) (hkw : SK X cl kws mk) (hnk : ks.length = nk := by rfl)
    (hall : (backToKw pos (keywordEach kws X.env)).all (·.1.isSome) = true := by rfl) (hks : (backToKw pos (keywordEach kws X.env)).filterMap (·.1) = ks := by rfl) (hg : Gl X nm := by rfl) (hdb : (nm == ("__debug__" : Str)) = false := by decide)
    (hpl : ((backTo pos (starEach [] X.env)).any (·.1) || (backToKw pos (keywordEach kws X.env)).any (·.1.isNone)) = false := by rfl) :
    SE X cl (.Call (.Name nm p) [] kws pos) (mMakeK c mi 0 nk is mNil mk) := by
  subst hnk
  obtain ⟨⟨f, fd, ps, M, F, hm, hb⟩, ar⟩ := S
  refine PE.weak (pe_makeK0 M F (hr.mono hk) hg hm hb pass0 hkw hall hks hdb hpl) fun σ H Q ⟨F, α, δ, μ, z, μ', C, Ee, hm, kk⟩ => ?_
  unfold mMakeK at hm
  split at hm
  · cases hm
  rename_i rs μ1 h1
  cases h1
  split at hm
  · cases hm
  rename_i zs μ2 h2
  split at hm
  · rename_i hl
    split at hm
    · cases hm
    rename_i ds μ3 h3
    cases hm
    refine ⟨F, α, δ, μ, zs, μ2, C, Ee, h2, fun vs F1 H1 e1 c1 q1 => ?_⟩
    refine ⟨rfl, by rw [q1.length]; exact hl.2, fun x dx hx hd ne => ?_⟩
    have q2 := q1.pick is
    have e2 : pick (0 :: is.map (· + 1)) ([V.ref x] ++ vs) = .ref x :: pick is vs := pick_shift _ _ _
    show spI X.K cl c n mi (pick (0 :: is.map (· + 1)) ([V.ref x] ++ vs)) _ _ _
    rw [e2]
    refine ⟨x, dx, H1, pick is vs, F1, α, μ2, pick is zs, ds, μ', rfl, ?_, hx, hd, ne, rfl, c1, q2, h3, fun F2 H2 e2 c2 r2 => ⟨rfl, kk _ F2 H2 (e1.trans e2) c2 r2⟩⟩
    rw [List.length_cons, q2.length]
    exact ar _ _ _ h3
  · cases hm

@[simp] def mUnG (f : Int → Int) (c : Nat) (mf : MF) (m : ME) : ME := fun δ μ => match m δ μ with
  | some (.dat (.int i), μ1) => some (.dat (.int (f i)), μ1)
  | some (.dat (.ins c' xs), μ1) => if c' = c then mf [.dat (.ins c' xs)] μ1 else none
  | _ => none
def rUn1 (C : Addr) (sp : Sp) (E : XK) : V → Hp → VK → Prop := fun x H Q => ∃ a dx vs, x = .ref a ∧ SlX.Slt H a C dx vs ∧ sp [x] H Q E
structure FU (P : Program) (w : World) (K : PySem.W.Frag) (mg : Str → Option Value) (base : Heap) (cl : Nat → Addr) (k c : Nat) (x : Str) (m : MF) : Prop where
  ok : ∃ g, PySem.W.findIn K (.ref (cl c)) x = some (some (.ref g)) ∧ PySem.W.isFn K (.ref g) = true ∧ FA P w K mg base cl k g 1 m
theorem FU.cx {x : Str} (S : FU P w K mg base cl k c x mf) : FU P w K mg base cl k c x (callX mf) := by
  obtain ⟨g, h1, h2, h3⟩ := S
  exact ⟨g, h1, h2, h3.x⟩
theorem un_negI (S : FU X.prog X.w X.K X.mg X.base cl k c "__neg__" mf) (hr : Room j X.A) (hk : k ≤ j) : UnR X (unaryOp .USub) (rUn1 (cl c) (spM X.K cl 1 mf) E0) := by
  obtain ⟨g, h1, h2, h3⟩ := S
  intro pins s σ H x v Q I rx h
  obtain ⟨a, dx, vs, rfl, ha, q⟩ := h
  cases (show v = Value.ref a from rx)
  obtain ⟨sl, od, _, J, _⟩ := SlX.slt_inst I ha
  obtain ⟨m, hF⟩ := I.fr
  refine PySem.W.ksp_neg hF I.ok.mod.kin J h1 h2 ?_
  exact wpAny_mono (wpAny_call (run_fnR (us := [.ref a]) (vs := [.ref a]) h3.raw (hr.mono hk) pass0 I (.cons rfl .nil) q)) (fun w s' z => z) fun _ _ x => x
theorem UnR.or {f : Value → Sem Value} {r r' : V → Hp → VK → Prop} (h : UnR X f r) (h' : UnR X f r') : UnR X f (fun x H Q => r x H Q ∨ r' x H Q) := by
  intro pins s σ H x v Q I rx q
  rcases q with q | q
  · exact h pins s σ H x v Q I rx q
  · exact h' pins s σ H x v Q I rx q
theorem se_negG (S : FU X.prog X.w X.K X.mg X.base cl k c "__neg__" mf) (hr : Room j X.A) (hk : k ≤ j) (h : SE X cl e m) : SE X cl (.UnaryOp .USub e pos) (mUnG (fun i => -i) c mf m) := by
  refine PE.weak (pe_un (UnR.or un_neg (un_negI S hr hk)) h) fun σ H Q ⟨F, α, δ, μ, z, μ', C, Ee, hm, k⟩ => ?_
  unfold mUnG at hm
  split at hm
  · rename_i i μ1 h0
    cases hm
    exact ⟨F, α, δ, μ, _, μ', C, Ee, h0, fun v F1 H1 e1 c1 r1 => .inl ⟨i, rep_int r1, k _ F1 H1 e1 c1 (.int _)⟩⟩
  · rename_i c' xs μ1 h0
    split at hm
    · rename_i hc
      subst hc
      refine ⟨F, α, δ, μ, _, _, C, Ee, h0, fun v F1 H1 e1 c1 q1 => .inr ?_⟩
      have hsp : spM X.K cl 1 mf [v] H1 Q E0 := ⟨F1, α, μ1, _, z, μ', rfl, c1, .cons (argD q1) .nil, hm, fun v F3 H3 e3 c3 r3 => k v F3 H3 (e1.trans e3) c3 (r3.back e1.dom)⟩
      cases q1 with
      | ins hs hq hr => exact ⟨_, _, _, rfl, Same.slt c1.sub hs, hsp⟩
    · cases hm
  · cases hm
end
end DL
namespace DL
open PySem PySem.Spec PyProof.Rows L2
open PySem.W in
theorem abs_own {prog : Program} {w : World} {A : Around} {E : Value → Shared → Prop} {s : Shared} {K : PySem.W.Frag} {x C f : Addr} {ox : Obj} {od : Option Obj} {Q : Value → Shared → Prop} (X : K.In s.heap) (I : InstAt s.heap x ox C od) (hs : findIn K (.ref C) "__abs__" = some (some (.ref f))) (hf : isFn K (.ref f) = true)
    (h : wpAny (model prog w) A.in1 (call (.ref f) [.ref x]) Q E s) : wpAny (model prog w) A (call (.builtin "abs") [.ref x]) Q E s := by
  refine PySem.Calls.call_function_entry kind_abs plain_abs entry_abs (args_abs _) ?_
  unfold Builtin.«abs»
  refine wpAny_bind (m := oneArg "abs" _) (wpAny_pure ?_)
  refine wpAny_bind (m := callSpecial? (.ref x) (Str.ofString "__abs__")) (special_fn X I hs (beq_iff_eq.mp hf) (wpAny_mono h (fun r s' hr => ?_) fun _ _ y => y))
  exact wpAny_pure ⟨r, rfl, hr⟩
section
variable {X : Cx} {cl : Nat → Addr} {e o a b tg : Expr} {es : List Expr} {m mo ma mb : ME} {ms mk : MA} {pos p apos : Pos} {K : PySem.W.Frag} {n np nk k j c : Nat} {mf : MF} {P : Program} {w : World} {mg : Str → Option Value} {base : Heap}
def rAbsA (C : Addr) (sp : Sp) (E : XK) : List V → Hp → VK → Prop := fun xs H Q => (∃ i, xs = [.int i] ∧ Q (.int (if i < 0 then -i else i)) H) ∨ ∃ a dx vs, xs = [.ref a] ∧ SlX.Slt H a C dx vs ∧ sp xs H Q E
theorem call_absA (S : FU X.prog X.w X.K X.mg X.base cl k c "__abs__" mf) (hr : Room j X.A) (hk : k + 1 ≤ j) : CallR X (.builtin "abs") (rAbsA (cl c) (spM X.K cl 1 mf) E0) := by
  obtain ⟨g, h1, h2, h3⟩ := S
  intro pins s σ H xs us Q I r h
  rcases h with h | h
  · exact call_abs pins s σ H xs us Q I r h
  · obtain ⟨a, dx, vs, rfl, ha, q⟩ := h
    obtain ⟨u, rfl, ru⟩ := r.one
    cases (show u = Value.ref a from ru)
    obtain ⟨sl, od, _, J, _⟩ := SlX.slt_inst I ha
    have hr1 : Room (k + 1) X.A := hr.mono hk
    refine abs_own I.kIn J h1 h2 ?_
    exact wpAny_mono (wpAny_call (SlX.run_at (us := [.ref a]) (ws := [.ref a]) h3.raw hr1.in1 I.env0.in1 pass0 I (.cons rfl .nil) q)) (fun w s' z => z) fun _ _ x => x
@[simp] def mAbsG (c : Nat) (mf : MF) (m : ME) : ME := mUnG (fun i => if i < 0 then -i else i) c mf m
theorem se_absG (S : FU X.prog X.w X.K X.mg X.base cl k c "__abs__" mf) (hr : Room j X.A) (hk : k + 1 ≤ j) (hm : X.mg "abs" = none) (h : SE X cl e m) (hg : Gl X "abs" := by rfl) (he : starEach (e :: []) X.env = (false, eval e X.env) :: starEach [] X.env := by rfl) : SE X cl (.Call (.Name "abs" p) [e] [] pos) (mAbsG c mf m) := by
  refine PE.weak (pe_callB (call_absA S hr hk) hg hm (by decide +kernel) (pa_cons h pa_nil he) (he := he)) fun σ H Q ⟨F, α, δ, μ, z, μ', C, Ee, hm, k⟩ => ?_
  unfold mAbsG mUnG at hm
  split at hm
  · rename_i i μ1 h0
    cases hm
    exact ⟨F, α, δ, μ, _, μ', C, Ee, h0, fun v F1 H1 e1 c1 r1 => .inl ⟨i, by rw [rep_int r1], k _ F1 H1 e1 c1 (.int _)⟩⟩
  · rename_i c' xs μ1 h0
    split at hm
    · rename_i hc
      subst hc
      refine ⟨F, α, δ, μ, _, _, C, Ee, h0, fun v F1 H1 e1 c1 q1 => .inr ?_⟩
      have hsp : spM X.K cl 1 mf [v] H1 Q E0 := ⟨F1, α, μ1, _, z, μ', rfl, c1, .cons (argD q1) .nil, hm, fun v F3 H3 e3 c3 r3 => k v F3 H3 (e1.trans e3) c3 (r3.back e1.dom)⟩
      cases q1 with
      | ins hs hq hr => exact ⟨_, _, _, rfl, Same.slt c1.sub hs, hsp⟩
    · cases hm
  · cases hm
end
end DL
set_option Elab.async false
set_option linter.all false
set_option maxRecDepth 100000
set_option maxHeartbeats 1000000

namespace DL
open PySem L2
section
variable {X : Cx} {cl : Nat → Addr} {a b : Expr} {ma mb : ME} {pos : Pos} {K : PySem.W.Frag}
@[simp] def fIsB (neg : Bool) : R → R → Mu → Option R
  | .dat (.bl x), .dat (.bl y), _ => some (.dat (.bl (xor neg (decide (x = y)))))
  | _, _, _ => none
theorem sem_isB : OpSem K cl (fun x y H Q => ∃ a b, x = .bl a ∧ y = .bl b ∧ Q (.bl (decide (a = b))) H) (fIsB false) := by
  intro F α μ H H0 x y rx ry z Q C h1 h2 hz k
  unfold fIsB at hz
  split at hz
  · cases hz
    exact ⟨_, _, rep_bl h1, rep_bl h2, k _ F H Evo.refl C (by rw [Bool.false_xor]; exact .bl _)⟩
  · cases hz
theorem sem_notB : OpSem K cl (fun x y H Q => ∃ a b, x = .bl a ∧ y = .bl b ∧ Q (.bl (!decide (a = b))) H) (fIsB true) := by
  intro F α μ H H0 x y rx ry z Q C h1 h2 hz k
  unfold fIsB at hz
  split at hz
  · cases hz
    exact ⟨_, _, rep_bl h1, rep_bl h2, k _ F H Evo.refl C (by rw [Bool.true_xor]; exact .bl _)⟩
  · cases hz
theorem se_isB (ha : SE X cl a ma) (hb : SE X cl b mb) : SE X cl (.Compare a [.Is] [b] pos) (mOp (fIsB false) ma mb) := se_cmp op_is_bl sem_isB ha hb (nomark _)
theorem st_isB (ha : SE X cl a ma) (hb : SE X cl b mb) : ST X cl (.Compare a [.Is] [b] pos) (mB (mOp (fIsB false) ma mb)) := st_cmp op_is_bl sem_isB ha hb (nomark _)
theorem se_notB (ha : SE X cl a ma) (hb : SE X cl b mb) : SE X cl (.Compare a [.IsNot] [b] pos) (mOp (fIsB true) ma mb) := se_cmp op_isnot_bl sem_notB ha hb (nomark _)
theorem st_notB (ha : SE X cl a ma) (hb : SE X cl b mb) : ST X cl (.Compare a [.IsNot] [b] pos) (mB (mOp (fIsB true) ma mb)) := st_cmp op_isnot_bl sem_notB ha hb (nomark _)
end
end DL
set_option Elab.async false
set_option linter.all false
set_option maxRecDepth 100000
set_option maxHeartbeats 1000000

namespace DL
open PySem PySem.Spec PyProof.Rows PySem.Calls L2
section
variable {M : Model} {A : Around} {E : Value → Shared → Prop} {s : Shared} {K : PySem.W.Frag} {x C L f : Addr} {h₀ : Heap} {m : Str → Option Value} {ox : Obj} {od : Option Obj} {prog : Program} {w : World} {nm T : String}
open PySem.W
def mroTwo (K : Frag) (C : Addr) : Bool := (clsIn K C).any fun cd => cd.mro == [.ref C, .type "object"]
theorem mroTwo_of {cd : ClassData} (h1 : clsIn K C = some cd) (h2 : cd.mro = [.ref C, .type "object"]) : mroTwo K C = true := by
  unfold mroTwo
  rw [h1, Option.any_some, h2]
  exact beq_self_eq_true _
theorem fillsI_no {h : Heap} {add : Bool} (X : K.In h) (hc : mroTwo K C = true) (h1 : findIn K (.ref C) (dunderI nm) = some none) (h2 : findIn K (.type "object") (dunderI nm) = some none) : Looks M h (fillsInplaceSlot (.ref C) nm add) false := by
  obtain ⟨cd, hcd, hm⟩ := any_some hc
  have hm := beq_iff_eq.mp hm
  intro A Q E s k q
  have Lm : Looks M h (mroOf (.ref C)) cd.mro := (looks_clsIn X hcd).andThen (f := fun cd => pure cd.mro) .now
  have Lm' := Lm.keeps k
  obtain ⟨hh, g, d, tt, os⟩ := s
  have X' : K.In hh := X.keeps k
  have L1 : Looks M hh (typeLookup (.ref C) (dunderI nm)) none := looks_findIn X' h1
  have L2 : Looks M hh (typeLookup (.type "object") (dunderI nm)) none := looks_findIn X' h2
  unfold fillsInplaceSlot
  refine wpAny_bind (Lm'.at ?_)
  rw [hm, List.anyM_cons]
  refine wpAny_bind (wpAny_bind (L1.at (wpAny_pure ?_)))
  rw [List.anyM_cons]
  refine wpAny_bind (wpAny_bind (L2.at (wpAny_pure ?_)))
  exact wpAny_pure q
theorem binop1_K {op : Operator} {b : Value} {Q : Value → Shared → Prop} (F : Fr h₀ L s.heap m) (X₀ : K.In h₀) (I : InstAt s.heap x ox C od) (hb : Looks (model prog w) s.heap (typeOf b) (.ref C)) (hc : selfFirst K C = true)
    (hs : findIn K (.ref C) (PySem.dunder op.info.2) = some (some (.ref f))) (hf : isFn K (.ref f) = true)
    (h : wpAny (model prog w) A (call (.ref f) [.ref x, b]) (PySem.W.CmpBack Q) E s) : wpAny (model prog w) A (binaryOp1 op.info.2 (.ref x) b) (fun r s' => ∃ v, r = some v ∧ Q v s') E s := by
  have X := X₀.keeps F.keep
  obtain ⟨cd, rest, hcd, hm⟩ := ksp_first hc
  unfold binaryOp1
  refine wpAny_bind (I.type.here (wpAny_bind (hb.here (wpAny_bind ((fills_K X hcd hm hs).here ?_)))))
  simp only [beq_self_eq_true, if_true]
  refine wpAny_bind (wpAny_pure ?_)
  simp only [Bool.and_false, Bool.false_eq_true, if_false, Bool.false_and]
  refine wpAny_bind (wpAny_pure ?_)
  simp only [Bool.false_eq_true, if_false]
  refine wpAny_bind (wpAny_mono (ksp_try X I hs hf h) (fun r s' hr => ?_) fun _ _ e => e)
  obtain ⟨v, rfl, hq⟩ := hr
  exact wpAny_pure ⟨v, rfl, hq⟩
theorem binop1_T {op : Operator} {b : Value} {fo ro rc : Option Value} {Q : Value → Shared → Prop} (F : Fr h₀ L s.heap m) (X₀ : K.In h₀) (I : InstAt s.heap x ox C od) (hb : typeOf b = pure (.type T)) (hc : selfFirst K C = true)
    (hs : findIn K (.ref C) (PySem.dunder op.info.2) = some (some (.ref f))) (hf : isFn K (.ref f) = true) (hr : findIn K (.ref C) (dunderR op.info.2) = some rc) (hp : rc = none ∨ ∃ g : Addr, rc = some (.ref g))
    (h1 : findIn K (.type T) (PySem.dunder op.info.2) = some fo) (h2 : findIn K (.type T) (dunderR op.info.2) = some ro) (hsub : subIn K (.type T) (.ref C) = some false)
    (h : wpAny (model prog w) A (call (.ref f) [.ref x, b]) (PySem.W.CmpBack Q) E s) : wpAny (model prog w) A (binaryOp1 op.info.2 (.ref x) b) (fun r s' => ∃ v, r = some v ∧ Q v s') E s := by
  have X := X₀.keeps F.keep
  obtain ⟨cd, rest, hcd, hm⟩ := ksp_first hc
  have one := ksp_try X I hs hf h
  generalize op.info.2 = nm' at hs hr h1 h2 one ⊢
  obtain ⟨hh, g, d, tt, os⟩ := s
  have L1 : Looks (model prog w) hh (typeOf (.ref x)) (.ref C) := I.type
  have L2 : Looks (model prog w) hh (typeOf b) (.type T) := Looks.of_pure hb
  have L3 : Looks (model prog w) hh (fillsNumberSlot (.ref C) nm') true := fills_K X hcd hm hs
  have L4 : Looks (model prog w) hh (fillsNumberSlot (.type T) nm') ((fo.isSome && !isSeqSlot fo) || (ro.isSome && !isSeqSlot ro)) := ksp_fillsT X h1 h2
  have L5 : Looks (model prog w) hh (isSubtype (.type T) (.ref C)) false := looks_subIn X hsub
  have L6 : Looks (model prog w) hh (numberSlotInPython (.ref C) nm') true := ksp_inPy X hs hr hp
  have L7 : Looks (model prog w) hh (numberSlotInPython (.type T) nm') false := Looks.of_pure rfl
  have L8 : Looks (model prog w) hh (typeLookup (.type T) (dunderR nm')) ro := looks_findIn X h2
  generalize ((fo.isSome && !isSeqSlot fo) || (ro.isSome && !isSeqSlot ro)) = right at L4
  have hne : (Value.ref C == Value.type T) = false := Bool.eq_false_iff.mpr fun q => by cases beq_iff_eq.mp q
  unfold binaryOp1
  refine wpAny_bind (L1.at (wpAny_bind (L2.at (wpAny_bind (L3.at ?_)))))
  simp only [hne, Bool.false_eq_true, if_false]
  cases right with
  | false =>
    ksp_lk
    refine wpAny_mono one (fun r s' hr' => ?_) fun _ _ e => e
    obtain ⟨v, rfl, hq⟩ := hr'
    ksp_lk
    exact ⟨v, rfl, hq⟩
  | true =>
    ksp_lk
    refine wpAny_mono one (fun r s' hr' => ?_) fun _ _ e => e
    obtain ⟨v, rfl, hq⟩ := hr'
    ksp_lk
    exact ⟨v, rfl, hq⟩
theorem inplace_no {op : Operator} {b : Value} {Q : Value → Shared → Prop} (F : Fr h₀ L s.heap m) (X₀ : K.In h₀) (I : InstAt s.heap x ox C od) (hc : mroTwo K C = true) (h1 : findIn K (.ref C) (dunderI op.info.2) = some none) (h2 : findIn K (.type "object") (dunderI op.info.2) = some none)
    (h : wpAny (model prog w) A (binaryOp1 op.info.2 (.ref x) b) (fun r s' => ∃ v, r = some v ∧ Q v s') E s) : wpAny (model prog w) A (inplaceOp op (.ref x) b) Q E s := by
  have X := X₀.keeps F.keep
  have L1 : Looks (model prog w) s.heap (typeOf (.ref x)) (.ref C) := I.type
  have L2 : Looks (model prog w) s.heap (fillsInplaceSlot (.ref C) op.info.2 (op == .Add)) false := fillsI_no X hc h1 h2
  unfold inplaceOp
  refine wpAny_holding (wpAny_bind (L1.here (wpAny_bind (L2.here ?_))))
  rw [if_neg Bool.false_ne_true]
  refine wpAny_bind (wpAny_mono h (fun r s' hr => ?_) fun _ _ e => e)
  obtain ⟨v, rfl, hq⟩ := hr
  exact wpAny_pure hq
end
section
variable {X : Cx} {cl : Nat → Addr} {e : Expr} {m : ME} {pos : Pos} {K : PySem.W.Frag} {k j c : Nat} {mf : MF} {P : Program} {w : World} {mg : Str → Option Value} {base : Heap} {g1 g2 : G2}
/-- the class number c has no in-place op -/
structure NoI (K : PySem.W.Frag) (cl : Nat → Addr) (c : Nat) (op : Operator) : Prop where
  mr : mroTwo K (cl c) = true
  h1 : PySem.W.findIn K (.ref (cl c)) (dunderI op.info.2) = some none
  h2 : PySem.W.findIn K (.type "object") (dunderI op.info.2) = some none
def IpG (X : Cx) (cl : Nat → Addr) (op : Operator) (g : G2) : Prop := ∃ r, OpR X (inplaceOp op) r ∧ OpSemG X.K cl r g
theorem IpG.or {op : Operator} (h : IpG X cl op g1) (h' : IpG X cl op g2) : IpG X cl op (gOr g1 g2) := by
  obtain ⟨r, h1, h2⟩ := h
  obtain ⟨r', h1', h2'⟩ := h'
  exact ⟨_, OpR.or h1 h1', semG_or h2 h2'⟩
theorem ipII {op : Operator} (S : FO X.prog X.w X.K X.mg X.base cl k c op mf) (N : NoI X.K cl c op) (hr : Room j X.A) (hk : k ≤ j) : IpG X cl op (gII c mf) := by
  obtain ⟨sf, g, h1, h2, h3⟩ := S
  refine ⟨rBin (cl c) (spM X.K cl 2 mf) E0, ?_, ?_⟩
  · intro pins s σ H x y v u Q I rx ry h
    obtain ⟨a, dx, vs, b, dy, ws, rfl, rfl, ha, hb, q⟩ := h
    cases (show v = Value.ref a from rx)
    cases (show u = Value.ref b from ry)
    obtain ⟨sl, od, _, J, _⟩ := SlX.slt_inst I ha
    obtain ⟨sl', od', _, J', _⟩ := SlX.slt_inst I hb
    obtain ⟨m, hF⟩ := I.fr
    refine inplace_no hF I.ok.mod.kin J N.mr N.h1 N.h2 (binop1_K hF I.ok.mod.kin J J'.type sf h1 h2 ?_)
    refine wpAny_mono (wpAny_call (run_fnR (us := [.ref a, .ref b]) (vs := [.ref a, .ref b]) h3.raw (hr.mono hk) pass0 I (.cons rfl (.cons rfl .nil)) q)) (fun w s' z => ?_) fun _ _ x => x
    obtain ⟨z', H', I', rz, qz⟩ := z
    exact SlX.cmpback rz ⟨z', H', I', rz, qz⟩
  · intro F α μ μ' H H0 x y rx ry z Q C q1 q2 hz kk
    unfold gII at hz
    split at hz
    · rename_i c1 xs c2 ys
      split at hz
      · rename_i hc
        obtain ⟨rfl, rfl⟩ := hc
        have hsp : spM X.K cl 2 mf [x, y] H Q E0 := ⟨F, α, μ, _, z, μ', rfl, C, .cons (argD q1) (.cons (argD q2) .nil), hz, kk⟩
        cases q1 with
        | ins hs1 hq1 hr1 =>
          cases q2 with
          | ins hs2 hq2 hr2 => exact ⟨_, _, _, _, _, _, rfl, rfl, Same.slt C.sub hs1, Same.slt C.sub hs2, hsp⟩
      · cases hz
    · cases hz
theorem ipIN {op : Operator} (S : FON X.prog X.w X.K X.mg X.base cl k c op mf) (N : NoI X.K cl c op) (hr : Room j X.A) (hk : k ≤ j) : IpG X cl op (gIN c mf) := by
  obtain ⟨sf, ⟨g, h1, h2, h3⟩, ⟨rc, h4, h4'⟩, ⟨fo, h5⟩, ⟨ro, h6⟩, h7⟩ := S
  refine ⟨rIN (cl c) (spM X.K cl 2 mf) E0, ?_, ?_⟩
  · intro pins s σ H x y v u Q I rx ry h
    obtain ⟨a, dx, vs, i, rfl, rfl, ha, q⟩ := h
    cases (show v = Value.ref a from rx)
    obtain ⟨t, rfl⟩ := (show ∃ t, u = Value.int i t from ry)
    obtain ⟨sl, od, _, J, _⟩ := SlX.slt_inst I ha
    obtain ⟨m, hF⟩ := I.fr
    refine inplace_no hF I.ok.mod.kin J N.mr N.h1 N.h2 (binop1_T hF I.ok.mod.kin J rfl sf h1 h2 h4 h4' h5 h6 h7 ?_)
    refine wpAny_mono (wpAny_call (run_fnR (us := [.ref a, .int i t]) (vs := [.ref a, .int i]) h3.raw (hr.mono hk) pass0 I (.cons rfl (.cons ⟨t, rfl⟩ .nil)) q)) (fun w s' z => ?_) fun _ _ x => x
    obtain ⟨z', H', I', rz, qz⟩ := z
    exact SlX.cmpback rz ⟨z', H', I', rz, qz⟩
  · intro F α μ μ' H H0 x y rx ry z Q C q1 q2 hz kk
    unfold gIN at hz
    split at hz
    · rename_i c1 xs i
      split at hz
      · rename_i hc
        subst hc
        have hsp : spM X.K cl 2 mf [x, y] H Q E0 := ⟨F, α, μ, _, z, μ', rfl, C, .cons (argD q1) (.cons (argD q2) .nil), hz, kk⟩
        cases q1 with
        | ins hs1 hq1 hr1 =>
          cases q2
          exact ⟨_, _, _, _, rfl, rfl, Same.slt C.sub hs1, hsp⟩
      · cases hz
    · cases hz
@[simp] def mAugG (i : Nat) (g : G2) (m : ME) : MS := fun δ μ => match δ[i]? with
  | some (.dat x) => match m δ μ with
    | some (.dat y, μ1) => match g (.dat x) (.dat y) μ1 with
      | some (.dat z, μ2) => some (.nx (δ.set i (.dat z)) μ2)
      | _ => none
    | _ => none
  | _ => none
theorem ss_augG {op : Operator} {i : Nat} {x : Str} {pos' : Pos} (hN : X.N.Nodup) (hg : IpG X cl op g1) (he : SE X cl e m) (hi : X.N[i]? = some x := by rfl) (hx : Loc X.env.scope x := by first | exact .inl rfl | exact .inr rfl) (hf : X.fn x = true ∨ X.env.scope.names.lookup x = some .local := by first | exact .inl rfl | exact .inr rfl) :
    SS X cl (.AugAssign (.Name x pos') op e pos) (mAugG i g1 m) := by
  obtain ⟨r, h1, h2⟩ := hg
  refine PS.weak (ps_aug hN hi hx he (ti := r) h1 hf) fun E σ H ⟨F, α, δ, μ, fl, C, Ee, hm, k⟩ => ?_
  unfold mAugG at hm
  split at hm
  · rename_i x e1
    split at hm
    · rename_i y μ1 e2
      split at hm
      · rename_i z μ2 e3
        cases hm
        obtain ⟨v, q1, q2⟩ := Ee.2.1 i _ e1
        refine ⟨v, q1, F, α, δ, μ, _, μ1, C, Ee, e2, fun w F1 H1 v1 c1 r1 => ?_⟩
        have q2' : RepR X.K cl H F1 α H1 v (.dat x) := Rep.mono v1.ff q2
        refine h2 F1 α μ1 μ2 H1 H v w (.dat x) (.dat y) (.dat z) _ c1 q2' r1 e3 fun u F2 H2 v2 c2 r2 => ?_
        exact k F2 α _ H2 (v1.trans v2) c2 (((Ee.step v1).step v2).put i r2)
      · cases hm
    · cases hm
  · cases hm
end
end DL
set_option Elab.async false
set_option linter.all false
set_option maxRecDepth 100000
set_option maxHeartbeats 1000000

namespace DL
open PySem PySem.Spec PyProof.Rows L2
def insI (a : Int) : List Int → List Int
  | [] => [a]
  | b :: r => if a ≤ b then a :: b :: r else b :: insI a r
def isort : List Int → List Int
  | [] => []
  | a :: r => insI a (isort r)
theorem insI_perm (a : Int) : ∀ l, (insI a l).Perm (a :: l)
  | [] => .refl _
  | b :: r => by
    unfold insI
    split
    · exact .refl _
    · exact ((insI_perm a r).cons b).trans (.swap a b r)
theorem isort_perm : ∀ l, (isort l).Perm l
  | [] => .refl _
  | a :: r => (insI_perm a _).trans ((isort_perm r).cons a)
theorem insI_sorted (a : Int) : ∀ l : List Int, l.Pairwise (· ≤ ·) → (insI a l).Pairwise (· ≤ ·)
  | [], _ => by simp [insI]
  | b :: r, h => by
    unfold insI
    rw [List.pairwise_cons] at h
    split
    · rename_i hab
      refine List.pairwise_cons.mpr ⟨fun x hx => ?_, List.pairwise_cons.mpr h⟩
      rcases List.mem_cons.mp hx with rfl | hx
      · exact hab
      · exact Int.le_trans hab (h.1 x hx)
    · rename_i hab
      refine List.pairwise_cons.mpr ⟨fun x hx => ?_, insI_sorted a r h.2⟩
      rcases List.mem_cons.mp ((insI_perm a r).subset hx) with rfl | hx
      · omega
      · exact h.1 x hx
theorem isort_sorted : ∀ l : List Int, (isort l).Pairwise (· ≤ ·)
  | [] => .nil
  | a :: r => insI_sorted a _ (isort_sorted r)
theorem sorted_uniq : ∀ {l l' : List Int}, l.Perm l' → l.Pairwise (· ≤ ·) → l'.Pairwise (· ≤ ·) → l = l'
  | [], l', h, _, _ => by
    rw [List.nil_perm.mp h]
  | a :: l, [], h, _, _ => absurd h.length_eq (by simp)
  | a :: l, b :: l', h, h1, h2 => by
    rw [List.pairwise_cons] at h1 h2
    have e : a = b := by
      have ha : a ∈ b :: l' := h.subset List.mem_cons_self
      have hb : b ∈ a :: l := h.symm.subset List.mem_cons_self
      rcases List.mem_cons.mp ha with e | ha
      · exact e
      · rcases List.mem_cons.mp hb with e | hb
        · exact e.symm
        · exact Int.le_antisymm (h1.1 b hb) (h2.1 a ha)
    subst e
    rw [sorted_uniq (List.Perm.cons_inv h) h1.2 h2.2]
section
variable {X : Cx} {cl : Nat → Addr} {a : Expr} {ms : MA} {pos p : Pos} {K : PySem.W.Frag}
@[simp] def fSorted : List R → Mu → Option R
  | [r], μ => match lstOf r μ with
    | some xs => match intsOf xs with
      | some ns => some (.fr ((isort ns).map D.int))
      | none => none
    | none => none
  | _, _ => none
theorem reps_intsV {F : Hp} : ∀ {vs : List V} {ns : List Int}, Reps K cl F vs (ns.map D.int) → vs = ns.map V.int
  | _, [], .nil => rfl
  | _, n :: ns, .cons h r => by rw [rep_int h, reps_intsV r]; rfl
theorem reps_ofI {F : Hp} : ∀ ns : List Int, Reps K cl F (ns.map V.int) (ns.map D.int)
  | [] => .nil
  | n :: ns => .cons (.int n) (reps_ofI ns)
theorem sem_sorted : CbSem K cl (rSortedI K) fSorted := by
  intro F α μ H vs rs z Q C h hz k
  unfold fSorted at hz
  split at hz
  · rename_i r
    split at hz
    · rename_i xs e1
      split at hz
      · rename_i ns e2
        cases hz
        obtain ⟨v, rfl, h1⟩ := args1 h
        have e3 := intsOf_map e2
        subst e3
        have e1' : sqOf r μ = some (.l (ns.map D.int)) := by
          cases r with
          | dat d => cases d <;> simp_all
          | _ => simp_all
        obtain ⟨ad, ws, rfl, q1, q2⟩ := sqOf_ok (H0 := H) C (argR_rep h1) e1'
        have e4 := reps_intsV q1
        subst e4
        refine ⟨ad, ns, rfl, q2, fun ns' l hp hs hl => ?_⟩
        have e5 := sorted_uniq (hp.trans (isort_perm ns).symm) hs (isort_sorted ns)
        subst e5
        obtain ⟨e5, c5, r5⟩ := C.newL hl (reps_ofI (isort ns))
        exact k _ _ _ e5 c5 r5
      · cases hz
    · cases hz
  · cases hz
theorem se_sorted (hm : X.mg "sorted" = none) (ha : SA X cl [a] ms) (hg : Gl X "sorted" := by rfl) (he : starEach (a :: []) X.env = (false, eval a X.env) :: starEach [] X.env := by rfl) : SE X cl (.Call (.Name "sorted" p) [a] [] pos) (mCb fSorted ms) := se_cb (pe_callB cr_sortedI hg hm (by decide +kernel) ha (he := he)) sem_sorted
end
end DL
set_option Elab.async false
set_option linter.all false
set_option maxRecDepth 100000
set_option maxHeartbeats 1000000

namespace HT
open PySem PySem.Spec PyProof.Rows
section
variable {prog : Program} {w : World} {A : Around} {E : Value → Shared → Prop} {s : Shared}
theorem places_rev (n : Nat) : Builtin.Slice.slicePlaces ((n : Int) - 1) (-1) (-1) = n := by
  unfold Builtin.Slice.slicePlaces
  rw [if_neg (by decide)]
  split
  · rw [show (-(-1) : Int) = 1 by decide, Int.ediv_one]
    omega
  · omega
theorem pick_rev (xs : Array Value) : ((List.range xs.size).filterMap fun (m : Nat) => xs[((xs.size : Int) - 1 + (m : Int) * (-1)).toNat]?).toArray = xs.toList.reverse.toArray := by
  congr 1
  apply List.ext_getElem?
  intro i
  by_cases h : i < xs.size
  · have e : ∀ (l : List Nat), (∀ m ∈ l, m < xs.size) → (l.filterMap fun (m : Nat) => xs[((xs.size : Int) - 1 + (m : Int) * (-1)).toNat]?) = l.map fun m => xs.toList.reverse[m]?.getD .none := by
      intro l
      induction l with
      | nil => intro _; rfl
      | cons a l ih =>
        intro hl
        have ha := hl a List.mem_cons_self
        rw [List.filterMap_cons, List.map_cons, ← ih fun m hm => hl m (List.mem_cons_of_mem _ hm)]
        have hx : ((xs.size : Int) - 1 + (a : Int) * (-1)).toNat = xs.size - 1 - a := by omega
        have h2 : xs.size - 1 - a < xs.size := by omega
        rw [hx, Array.getElem?_eq_getElem h2, List.getElem?_eq_getElem (by simpa using ha)]
        simp
    rw [e _ fun m hm => List.mem_range.mp hm]
    rw [List.getElem?_map, List.getElem?_range h, Option.map_some, List.getElem?_eq_getElem (by simpa using h)]
    rfl
  · rw [List.getElem?_eq_none, List.getElem?_eq_none]
    · simp
      omega
    · refine Nat.le_trans (List.length_filterMap_le ..) ?_
      simp
      omega
theorem sliceApplied_rev {sl : Addr} {vl vu vs : Value} {n : Nat} {Q : Int × Int × Nat → Shared → Prop} (hs : s.heap.IsSliceOf sl vl vu vs) (pl : IsPart vl none) (pu : IsPart vu none) (ps : IsPart vs (some (-1)))
    (h : Q ((n : Int) - 1, -1, n) s) : wpAny (model prog w) A (Builtin.Slice.sliceApplied (.ref sl) (pure (n : Int))) Q E s := by
  obtain ⟨os, hos, hcs, hds⟩ := id hs
  unfold Builtin.Slice.sliceApplied Builtin.Slice.sliceFields
  refine wpAny_bind (wpAny_bind (wpAny_field hos hds (x := vl) rfl (wpAny_bind (wpAny_field hos hds (x := vu) rfl (wpAny_bind (wpAny_field hos hds (x := vs) rfl (wpAny_pure ?_)))))))
  refine wpAny_bind (slicePart_ ps ?_)
  show wpAny _ _ (if ((-1 : Int) == 0) = true then _ else _) _ _ s
  rw [if_neg (by decide)]
  refine wpAny_bind (slicePart_ pl (wpAny_bind (slicePart_ pu (wpAny_bind (wpAny_pure ?_)))))
  show wpAny _ _ (pure ((n : Int) - 1, (-1 : Int), Builtin.Slice.slicePlaces ((n : Int) - 1) (-1) (-1))) _ _ s
  rw [places_rev]
  exact wpAny_pure h
theorem getItem_tuple_rev {t sl : Addr} {items : Array Value} {vl vu vs : Value} {Q : Value → Shared → Prop} (ht : IsTup s.heap t items) (hs : s.heap.IsSliceOf sl vl vu vs) (pl : IsPart vl none) (pu : IsPart vu none) (ps : IsPart vs (some (-1)))
    (h : Q (.ref s.heap.objs.size) { s with heap := s.heap.push { cls := .type "tuple", data := .seq items.toList.reverse.toArray } })
    (hsz : items.size ≤ sizeLine) : wpAny (model prog w) A (getItem (.ref t) (.ref sl)) Q E s := by
  have htake : sizeOk (.seq items.toList.reverse.toArray) := by
    show items.toList.reverse.toArray.size ≤ sizeLine
    simpa using hsz
  obtain ⟨os, hos, hcs, hds⟩ := id hs
  have hTs : s.TypeIs (.ref sl) "slice" := ⟨os, hos, hcs⟩
  unfold getItem
  try with_reducible refine wpAny_holding ?_
  first | refine wpAny_bind (wpAny_pure ?_) | skip
  refine wpAny_bind (wpAny_sequenceKey ht.typeIs (by decide) ?_)
  refine wpAny_bind (wpAny_callSpecial?_slot (name := Str.ofString "__getitem__") ht.typeIs PyProof.Rows.slot_tuple_getitem
    (wpAny_call_entry PyProof.Rows.slot_tuple_getitem ht.typeIs entry_tuple_getitem ?_ (args_tuple_getitem _ _)))
  show wpAny _ _ (Builtin.Tuple.tupleItemsOf (.ref t) >>= _) _ _ s
  refine wpAny_bind (tupleItemsOf_ ht ?_)
  refine wpAny_bind (wpAny_typeOf hTs ?_)
  rw [if_pos (by decide)]
  refine wpAny_bind (sliceApplied_rev hs pl pu ps ?_)
  have hno : ¬ ((((items.size : Int) - 1) == 0 && (-1 : Int) == 1 && items.size == items.size) = true) := by simp
  show wpAny _ _ (if ((((items.size : Int) - 1) == 0 && (-1 : Int) == 1 && items.size == items.size) = true) then _ else _) _ _ s
  rw [if_neg hno, pick_rev]
  first
    | exact wpAny_bind (m := Builtin.Tuple.tupleExact _) (wpAny_newObj_type (wpAny_pure ⟨_, rfl, wpAny_pure h⟩) htake)
    | exact wpAny_bind (m := Builtin.Tuple.tupleExact _) (wpAny_newObj_type (wpAny_bind (wpAny_pure (wpAny_pure ⟨_, rfl, wpAny_pure h⟩))) htake)
    | exact wpAny_bind (wpAny_bind (m := Builtin.Tuple.tupleExact _) (wpAny_newObj_type (wpAny_pure (wpAny_pure ⟨_, rfl, wpAny_pure h⟩)) htake))
    | exact wpAny_bind (wpAny_bind (m := Builtin.Tuple.tupleExact _) (wpAny_newObj_type (wpAny_pure ⟨_, rfl, wpAny_pure h⟩) htake))
end
end HT
namespace DL
open PySem PySem.Spec PyProof.Rows L2
section
variable {X : Cx} {cl : Nat → Addr} {e : Expr} {m : ME} {pos : Pos} {K : PySem.W.Frag}
def tRevA (K : PySem.W.Frag) (te : TE) : TE := fun σ H Q => te σ H fun x H1 => ∃ a xs, x = .ref a ∧ ((SqL K H1 a xs ∧ ∀ p, H1 p = none → Q (.ref p) (upd H1 p (.lst xs.reverse))) ∨ (SqT K H1 a xs ∧ ∀ p, H1 p = none → Q (.ref p) (upd H1 p (.tup xs.reverse))))
theorem pe_revA {e : Expr} {te : TE} {k : Nat} {p1 p2 p3 pos : Pos} (he : PE X e te) : PE X (.Subscript e (.Slice none none (some (.UnaryOp .USub (.Constant (.int 1) k p1) p2)) p3) pos) (tRevA X.K te) := by
  refine ⟨fun pins s σ H Q I h => ?_⟩
  refine Subscript_ (thn (he.run pins s σ H _ I h) fun v s1 ⟨x, H1, I1, r1, q1⟩ => ?_)
  obtain ⟨a, xs, ex, q1⟩ := q1
  subst ex
  cases r1
  have hst : PO X (some (.UnaryOp .USub (.Constant (.int 1) k p1) p2)) (tPart (tUn (rU fun i => .int (-i)) (tC (.int 1)))) := po_some (pe_un un_neg pe_int)
  refine wpAny_Slice (thn (po_none.run pins s1 σ H1 (fun o H2 => o = none ∧ H2 = H1) I1 ⟨rfl, rfl⟩) fun vl s2 ⟨l, H2, I2, pl, el, e2⟩ => ?_)
  subst el e2
  refine thn (po_none.run pins s2 σ H2 (fun o H3 => o = none ∧ H3 = H2) I2 ⟨rfl, rfl⟩) fun vu s3 ⟨u, H3, I3, pu, eu, e3⟩ => ?_
  subst eu e3
  refine thn (hst.run pins s3 σ H3 (fun o H4 => o = some (-1) ∧ H4 = H3) I3 ⟨1, rfl, -1, rfl, rfl, rfl⟩) fun vs s4 ⟨o, H4, I4, ps, eo, e4⟩ => ?_
  subst eo e4
  have I5 : Inv X pins σ H4 { s4 with heap := s4.heap.push { cls := .type "slice", data := .fields #[vl, vu, vs] } } := I4.kept (t' := s4.toks) fun b ob q => Heap.get?_push_of_some _ q
  show wpAny (model X.prog X.w) X.A (subscriptTail e (.Slice none none (some (.UnaryOp .USub (.Constant (.int 1) k p1) p2)) p3) (.ref a) (.ref s4.heap.objs.size)) (EP X pins σ Q) X.xe { s4 with heap := s4.heap.push { cls := .type "slice", data := .fields #[vl, vu, vs] } }
  rcases q1 with ⟨hx, q⟩ | ⟨hx, q⟩
  · obtain ⟨its, r, ht, hz⟩ := I5.list hx
    have hlen := r.length
    refine tail_any (ops := [.ref a, .ref s4.heap.objs.size]) ht.isList.typeIs (PySem.slot_list_getitem.lookup) ?_ (by with_unfolding_all rfl)
    refine wpAny_getItem_list_slice ht.isList (Heap.IsSliceOf.new _ vl vu vs) pl pu ps (by decide) ?_ (by rw [List.size_toArray]; omega)
    rw [PySem.W.krv_pick]
    refine ⟨.ref _, _, I5.laid (t' := s4.toks) (o := .lst xs.reverse) (fun b ob q => Heap.get?_push_of_some _ q) (Nat.le_refl _) ?_, rfl, q _ (I5.hok.fresh (Nat.le_refl _))⟩
    exact ⟨by rw [List.length_reverse]; exact hz, _, 0, r.reverse, Heap.get?_push_size _ rfl⟩
  · obtain ⟨its, r, ht, hz⟩ := I5.tuple hx
    have hlen := r.length
    refine tail_any (ops := [.ref a, .ref s4.heap.objs.size]) ht.typeIs (PyProof.Rows.slot_tuple_getitem.lookup) ?_ (by with_unfolding_all rfl)
    refine HT.getItem_tuple_rev ht (Heap.IsSliceOf.new _ vl vu vs) pl pu ps ?_ (by rw [List.size_toArray]; omega)
    refine ⟨.ref _, _, I5.laid (t' := s4.toks) (o := .tup xs.reverse) (fun b ob q => Heap.get?_push_of_some _ q) (Nat.le_refl _) ?_, rfl, q _ (I5.hok.fresh (Nat.le_refl _))⟩
    exact ⟨by rw [List.length_reverse]; exact hz, _, r.reverse, IsTup.new _ _⟩
@[simp] def mRev (m : ME) : ME := fun δ μ => match m δ μ with
  | none => none
  | some (x, μ1) => match sqOf x μ1 with
    | some (.l xs) => some (.fr xs.reverse, μ1)
    | some (.t xs) => some (.dat (.tup xs.reverse), μ1)
    | none => none
theorem reps_rev {F : Hp} {vs : List V} {xs : List D} (h : Reps K cl F vs xs) : Reps K cl F vs.reverse xs.reverse := by
  have app : ∀ {vs : List V} {xs : List D} {v : V} {d : D}, Reps K cl F vs xs → Rep K cl F v d → Reps K cl F (vs ++ [v]) (xs ++ [d]) := by
    intro vs
    induction vs with
    | nil =>
      intro xs v d h r
      cases h
      exact .cons r .nil
    | cons a vs ih =>
      intro xs v d h r
      cases h with
      | cons h1 h2 => exact .cons h1 (ih h2 r)
  induction vs generalizing xs with
  | nil =>
    cases h
    exact .nil
  | cons a vs ih =>
    cases h with
    | cons h1 h2 =>
      rw [List.reverse_cons, List.reverse_cons]
      exact app (ih h2) h1
theorem se_rev {k : Nat} {p1 p2 p3 : Pos} (h : SE X cl e m) : SE X cl (.Subscript e (.Slice none none (some (.UnaryOp .USub (.Constant (.int 1) k p1) p2)) p3) pos) (mRev m) := by
  refine PE.weak (pe_revA h) fun σ H Q ⟨F, α, δ, μ, z, μ', C, Ee, hm, k⟩ => ?_
  unfold mRev at hm
  split at hm
  · cases hm
  rename_i x μ1 h1
  refine ⟨F, α, δ, μ, x, μ1, C, Ee, h1, fun v F1 H1 e1 c1 r1 => ?_⟩
  split at hm
  · rename_i xs e2
    cases hm
    obtain ⟨ad, ws, rfl, q1, q2⟩ := sqOf_ok c1 r1 e2
    refine ⟨ad, ws, rfl, .inl ⟨q2, fun p hp => ?_⟩⟩
    obtain ⟨e5, c5, r5⟩ := c1.newL hp (reps_rev q1)
    exact k _ _ _ (e1.trans e5) c5 (r5.back e1.dom)
  · rename_i xs e2
    cases hm
    obtain ⟨ad, ws, rfl, q1, q2⟩ := sqOf_ok c1 r1 e2
    refine ⟨ad, ws, rfl, .inr ⟨q2, fun p hp => ?_⟩⟩
    obtain ⟨e5, c5⟩ := c1.new (o := .tup ws.reverse) hp
    exact k _ _ _ (e1.trans e5) c5 (.tup (.inl (.inl (by simp [upd]))) ((reps_rev q1).mono e5.ff))
  · cases hm
end
end DL
set_option Elab.async false
set_option linter.all false
set_option maxRecDepth 100000
set_option maxHeartbeats 1000000

namespace DL
open PySem L2
section
variable {X : Cx} {K : PySem.W.Frag} {cl : Nat → Addr} {e o : Expr} {mo : ME} {ms : MA} {apos cpos : Pos}
@[simp] def fExtend (k : Nat) (rs : List R) (μ : Mu) : Option (R × Mu) := match rs with
  | [.dat (.lst ys)] => match μ[k]? with
    | some (.l xs) => if xs.length + ys.length ≤ 100000 then some (.dat .non, μ.set k (.l (xs ++ ys))) else none
    | _ => none
  | _ => none
theorem sem_extend : BmSem K cl rExtend fExtend := by
  intro F α μ μ' H kk ad vs rs z Q C hk ha hz k
  unfold fExtend at hz
  split at hz
  · rename_i ys
    split at hz
    · rename_i xs h1
      split at hz
      · rename_i hl
        cases hz
        obtain ⟨v, rfl, q1⟩ := args1 ha
        obtain ⟨us, q2, q3⟩ := C.cell kk ad _ hk h1
        have q1 : Rep K cl F v (.lst ys) := q1
        cases q1 with
        | @lst a ws _ g1 g2 =>
          refine ⟨ad, a, us, ws, rfl, rfl, q2, C.sub _ _ g1, ?_, ?_⟩
          · rw [q3.length, g2.length]
            exact Nat.le_trans hl (by decide)
          · obtain ⟨e5, c5⟩ := C.put hk (q3.append g2)
            exact k _ F _ e5 c5 .non
      · cases hz
    · cases hz
  · cases hz
@[simp] def fClear (k : Nat) (rs : List R) (μ : Mu) : Option (R × Mu) := match rs with
  | [] => match μ[k]? with
    | some (.l _) => some (.dat .non, μ.set k (.l []))
    | some (.n _) => some (.dat .non, μ.set k (.l []))
    | _ => none
  | _ => none
theorem sem_clear : BmSem K cl rClear fClear := by
  intro F α μ μ' H kk ad vs rs z Q C hk ha hz k
  unfold fClear at hz
  split at hz
  · split at hz
    · rename_i xs h1
      cases hz
      cases ha
      obtain ⟨us, q2, q3⟩ := C.cell kk ad _ hk h1
      refine ⟨ad, us, rfl, rfl, q2, ?_⟩
      obtain ⟨e5, c5⟩ := C.put hk (Reps.nil (K := K) (cl := cl) (F := F))
      exact k _ F _ e5 c5 .non
    · rename_i xs h1
      cases hz
      cases ha
      obtain ⟨us, q2, q3⟩ := C.cell kk ad _ hk h1
      refine ⟨ad, us, rfl, rfl, q2, ?_⟩
      obtain ⟨e5, c5⟩ := C.put hk (Reps.nil (K := K) (cl := cl) (F := F))
      exact k _ F _ e5 c5 .non
    · cases hz
  · cases hz
theorem se_extend (ho : SE X cl o mo) (ha : SA X cl [e] ms) (hbase : attributeBase o "extend" X.env (eval o X.env) = eval o X.env := by rfl)
    (hfew : ((backTo cpos (starEach (e :: []) X.env)).all (fun x => !x.1) && (backToKw cpos (keywordEach [] X.env)).all (fun x => x.1.isSome) && decide ((e :: []).length + ([] : List Keyword).length + (if ([] : List Keyword).isEmpty then 0 else 1) < 30)) = true := by rfl)
    (hline : (apos.endLine == cpos.line) = true := by rfl) (hs : starEach (e :: []) X.env = (false, eval e X.env) :: starEach [] X.env := by rfl) (hplain : (backTo cpos (starEach [] X.env)).any (·.1) = false := by rfl) : SE X cl (.Call (.Attribute o "extend" apos) [e] [] cpos) (mBm fExtend mo ms) :=
  se_bm (pe_bm PySem.F.plainAttrs_list PySem.F.slot_list_extend PySem.F.type_list_extend mt_extend ho ha hbase hfew hline hs hplain) sem_extend
end
section
variable {X : Cx} {cl : Nat → Addr} {a b d : Expr} {ma mb mc : ME} {pos : Pos}
/-- two results in a row, by a tuple that is built -/
theorem ss_parT {ci cj : Bool} {i j : Nat} {x y : Str} {px py pt : Pos} {kt k2 : Nat} {pt2 : Pos} (hN : X.N.Nodup) (ha : SE X cl a ma) (hb : SE X cl b mb) (hc : X.calm = true := by rfl) (hi : X.N[i]? = some x := by rfl) (hj : X.N[j]? = some y := by rfl)
    (hx : Loc X.env.scope x := by first | exact .inl rfl | exact .inr rfl) (hy : Loc X.env.scope y := by first | exact .inl rfl | exact .inr rfl)
    (hf : X.fn x = true ∨ X.env.scope.names.lookup x = some .local := by first | exact .inl rfl | exact .inr rfl) (hf' : X.fn y = true ∨ X.env.scope.names.lookup y = some .local := by first | exact .inl rfl | exact .inr rfl)
    (hs : swapsWithSole [.Tuple [.Name x px, .Name y py] kt pt] (.Tuple [a, b] k2 pt2) pos.line X.env = pure false := by rfl)
    (hw : swappedStores [.Tuple [.Name x px, .Name y py] kt pt] (.Tuple [a, b] k2 pt2) X.env = pure none := by rfl)
    (hh : (assignEach [.Tuple [.Name x px, .Name y py] kt pt] X.env).map (·.2) = [assign (.Tuple [.Name x px, .Name y py] kt pt) X.env] := by rfl)
    (ha1 : starEach (a :: [b]) X.env = (false, eval a X.env) :: starEach [b] X.env := by rfl) (hb1 : starEach (b :: []) X.env = (false, eval b X.env) :: starEach [] X.env := by rfl) :
    SS X cl (.Assign [.Tuple [.Name x px, .Name y py] kt pt] (.Tuple [a, b] k2 pt2) pos) (mPar ci cj i j ma mb) := by
  refine PS.weak (ps_asg (pe_tup (pa_cons ha (pa_cons hb pa_nil hb1) ha1)) (pg_tup hc (pgs_cons (pg_name hN hi hx hf) (pgs_cons (pg_name hN hj hy hf') pgs_nil))) hs hw hh) fun E σ H ⟨F, α, δ, μ, fl, C, Ee, hm, k⟩ => ?_
  unfold mPar at hm
  split at hm
  · cases hm
  rename_i r1 μ1 h1
  split at hm
  · cases hm
  rename_i r2 μ2 h2
  split at hm
  · cases hm
  rename_i δ1 μ3 h3
  split at hm
  · cases hm
  rename_i δ2 μ4 h4
  cases hm
  refine ⟨F, α, δ, μ, r1, μ1, C, Ee, h1, fun v F1 H1 e1 c1 q1 => ⟨F1, α, δ, μ1, r2, μ2, c1, Ee.step e1, h2, fun w F2' H2' e2' c2' q2' => ⟨show 2 ≤ sizeLine by decide, fun p hp => ?_⟩⟩⟩
  obtain ⟨e5, c2⟩ := c2'.new (o := .tup [v, w]) hp
  refine ⟨p, [v, w], rfl, SqT.of upd_same, rfl, _, _, rfl, _, _, rfl, rfl, ?_⟩
  have e2 := e2'.trans e5
  have q2 := q2'.step e5
  obtain ⟨F3, α3, e3, sm, ex, n1, n2, c3, en3⟩ := st_ok (e1.trans e2) c2 ((Ee.step e1).step e2) (q1.step e2) h3
  have q2'' := (q2.back e1.dom).other sm ex n1 n2 fun a hr hw => fr_ne q1 q2 hr hw
  obtain ⟨F4, α4, e4, _, _, _, _, c4, en4⟩ := st_ok e3 c3 en3 q2'' h4
  exact k F4 α4 _ _ e4 c4 en4
theorem ss_par3T {ci cj cl' : Bool} {i j l : Nat} {x y z : Str} {px py pz pt : Pos} {kt k2 : Nat} {pt2 : Pos} (hN : X.N.Nodup) (ha : SE X cl a ma) (hb : SE X cl b mb) (hd : SE X cl d mc) (hc : X.calm = true := by rfl) (hi : X.N[i]? = some x := by rfl) (hj : X.N[j]? = some y := by rfl) (hl : X.N[l]? = some z := by rfl)
    (hx : Loc X.env.scope x := by first | exact .inl rfl | exact .inr rfl) (hy : Loc X.env.scope y := by first | exact .inl rfl | exact .inr rfl) (hz : Loc X.env.scope z := by first | exact .inl rfl | exact .inr rfl)
    (hf : X.fn x = true ∨ X.env.scope.names.lookup x = some .local := by first | exact .inl rfl | exact .inr rfl) (hf' : X.fn y = true ∨ X.env.scope.names.lookup y = some .local := by first | exact .inl rfl | exact .inr rfl) (hf'' : X.fn z = true ∨ X.env.scope.names.lookup z = some .local := by first | exact .inl rfl | exact .inr rfl)
    (hs : swapsWithSole [.Tuple [.Name x px, .Name y py, .Name z pz] kt pt] (.Tuple [a, b, d] k2 pt2) pos.line X.env = pure false := by rfl)
    (hw : swappedStores [.Tuple [.Name x px, .Name y py, .Name z pz] kt pt] (.Tuple [a, b, d] k2 pt2) X.env = pure none := by rfl)
    (hh : (assignEach [.Tuple [.Name x px, .Name y py, .Name z pz] kt pt] X.env).map (·.2) = [assign (.Tuple [.Name x px, .Name y py, .Name z pz] kt pt) X.env] := by rfl)
    (ha1 : starEach (a :: [b, d]) X.env = (false, eval a X.env) :: starEach [b, d] X.env := by rfl) (hb1 : starEach (b :: [d]) X.env = (false, eval b X.env) :: starEach [d] X.env := by rfl) (hd1 : starEach (d :: []) X.env = (false, eval d X.env) :: starEach [] X.env := by rfl) :
    SS X cl (.Assign [.Tuple [.Name x px, .Name y py, .Name z pz] kt pt] (.Tuple [a, b, d] k2 pt2) pos) (mPar3 ci cj cl' i j l ma mb mc) := by
  refine PS.weak (ps_asg (pe_tup (pa_cons ha (pa_cons hb (pa_cons hd pa_nil hd1) hb1) ha1)) (pg_tup hc (pgs_cons (pg_name hN hi hx hf) (pgs_cons (pg_name hN hj hy hf') (pgs_cons (pg_name hN hl hz hf'') pgs_nil)))) hs hw hh) fun E σ H ⟨F, α, δ, μ, fl, C, Ee, hm, k⟩ => ?_
  unfold mPar3 at hm
  split at hm
  · cases hm
  rename_i r1 μ1 h1
  split at hm
  · cases hm
  rename_i r2 μ2 h2
  split at hm
  · cases hm
  rename_i r3 μ3 h3
  split at hm
  · cases hm
  rename_i δ1 μ4 h4
  split at hm
  · cases hm
  rename_i δ2 μ5 h5
  split at hm
  · cases hm
  rename_i δ3 μ6 h6
  cases hm
  refine ⟨F, α, δ, μ, r1, μ1, C, Ee, h1, fun v F1 H1 e1 c1 q1 => ⟨F1, α, δ, μ1, r2, μ2, c1, Ee.step e1, h2, fun w F2 H2 e2 c2 q2 => ⟨F2, α, δ, μ2, r3, μ3, c2, (Ee.step e1).step e2, h3, fun u F3' H3' e3' c3' q3' => ⟨show 3 ≤ sizeLine by decide, fun p hp => ?_⟩⟩⟩⟩
  obtain ⟨e7, c3⟩ := c3'.new (o := .tup [v, w, u]) hp
  refine ⟨p, [v, w, u], rfl, SqT.of upd_same, rfl, _, _, rfl, _, _, rfl, _, _, rfl, rfl, ?_⟩
  have e3 := e3'.trans e7
  have q3 := q3'.step e7
  have e23 := e2.trans e3
  obtain ⟨F4, α4, e4, sm, ex, n1, n2, c4, en4⟩ := st_ok (e1.trans e23) c3 (((Ee.step e1).step e2).step e3) (q1.step e23) h4
  have q2' := ((q2.step e3).back e1.dom).other sm ex n1 n2 fun a hr hw => fr_ne q1 q2 hr hw
  have q3' := (q3.back (e1.trans e2).dom).other sm ex n1 n2 fun a hr hw => fr_ne (q1.step e2) q3 hr hw
  obtain ⟨F5, α5, e5, sm5, ex5, n15, n25, c5, en5⟩ := st_ok e4 c4 en4 q2' h5
  have q3'' := q3'.other sm5 ex5 n15 n25 fun a hr hw => fr_ne q2 q3 hr hw
  obtain ⟨F6, α6, e6, _, _, _, _, c6, en6⟩ := st_ok e5 c5 en5 q3'' h6
  exact k F6 α6 _ _ e6 c6 en6
end
end DL
set_option Elab.async false
set_option linter.all false
set_option maxRecDepth 100000
set_option maxHeartbeats 1000000

namespace DL
open PySem L2 PyProof.Rows
open Sem (wp)
open AutoSeq1 (wpAny_loadPart')
theorem meets_enumerate_newT (l : Addr) (items : Array Value) (n : Nat) (dct : Option Addr) (sl : Array (Option Value)) :
    Meets (Builtin.«enumerate.__new__» ⟨[.type "enumerate", .ref l], []⟩) (fun _ R s => s.heap.get? l = some { cls := .type "tuple", dict := dct, data := .seq items n, slots := sl } ∧
      R (.ok (.ret (.ref (s.heap.push { cls := .type "tuple_iterator", data := .fields #[.ref l, .int 0 0] }).objs.size)))
        { s with heap := (s.heap.push { cls := .type "tuple_iterator", data := .fields #[.ref l, .int 0 0] }).push { cls := .type "enumerate", data := .fields #[.none, .bool false, .ref s.heap.objs.size, rawInt 0, .none, .none] } }) :=
  .of_wp fun prog w A R s h => by
    obtain ⟨hp, g, d, tk, os⟩ := s; obtain ⟨hl, h⟩ := h
    have hsub := sub_enumerate
    have hL : Heap.IsTuple (Shared.heap ⟨hp, g, d, tk, os⟩) l items := ⟨_, hl, rfl, n, rfl⟩
    wp_walk using wpAny_loadPart' hl
    refine wpAny_stack_any fun st => wpAny_pure ?_
    split
    · rename_i c _ _ _ _ _
      cases (c == Value.type "enumerate")
      · wp_walk using wpAny_loadPart' hl, wpAny_pyIter_tuple hL
        exact ⟨_, rfl, h⟩
      · wp_walk using wpAny_loadPart' hl, wpAny_pyIter_tuple hL
        exact ⟨_, rfl, h⟩
    · wp_walk using wpAny_loadPart' hl, wpAny_pyIter_tuple hL
      exact ⟨_, rfl, h⟩
theorem call_enumerate_tuple {prog : Program} {w : World} {A : Around} {E : Value → Shared → Prop} {s : Shared} {l : Addr} {items : Array Value} {Q : Value → Shared → Prop} (hL : s.heap.IsTuple l items)
    (h : ∀ h', IsEnum h' (s.heap.objs.size + 1) s.heap.objs.size 0 .none → h'.IsTupleIter s.heap.objs.size l 0 → h'.objs.size = s.heap.objs.size + 2 →
      (∀ b o, s.heap.get? b = some o → h'.get? b = some o) → Q (.ref (s.heap.objs.size + 1)) { s with heap := h' }) :
    wpAny (model prog w) A (call (.type "enumerate") [.ref l]) Q E s := by
  obtain ⟨⟨c, dct, dt, sl⟩, hl, hc, n, hd⟩ := hL
  replace hc : c = .type "tuple" := hc
  replace hd : dt = .seq items n := hd
  subst hc hd
  refine callType_new F.called_enumerate (by decide) (F.typeCall_enumerate_1 _) (F.newCall_enumerate_1 _) (fun obj => F.args_object_init_2 obj _) F.entry_enumerate_new
    (meets_enumerate_newT l items n dct sl) ⟨hl, ?_⟩
  have hz : (s.heap.push { cls := .type "tuple_iterator", data := .fields #[.ref l, .int 0 0] }).objs.size = s.heap.objs.size + 1 := Heap.size_push ..
  show _ ∧ _
  rw [hz]
  have he : IsEnum ((s.heap.push { cls := .type "tuple_iterator", data := .fields #[.ref l, .int 0 0] }).push
      { cls := .type "enumerate", data := .fields #[.none, .bool false, .ref s.heap.objs.size, rawInt 0, .none, .none] }) (s.heap.objs.size + 1) s.heap.objs.size 0 .none := by
    have := Heap.get?_push_size (s.heap.push { cls := .type "tuple_iterator", data := .fields #[.ref l, .int 0 0] })
      (o := { cls := .type "enumerate", data := .fields #[.none, .bool false, .ref s.heap.objs.size, rawInt 0, .none, .none] }) rfl
    rw [hz] at this; exact this
  refine ⟨⟨_, he, rfl⟩, h _ he ⟨_, Heap.get?_push_of_some _ (Heap.get?_push_size _ rfl), rfl, rfl⟩ (by rw [Heap.size_push, hz]) fun b o x => Heap.get?_push_of_some _ (Heap.get?_push_of_some _ x)⟩
/-- the tuple at a, each item in a new pair -/
def IteT (K : PySem.W.Frag) (a : Addr) : It :=
  ⟨fun i H => ∃ (xs : List V) (x : V), SqT K H a xs ∧ xs[i]? = some x, fun i H v H' => ∃ T x, v = .ref T ∧ H T = none ∧ H' = upd H T (.tup [.int (i : Nat), x]) ∧ ∀ xs, SqT K H a xs → xs[i]? = some x, fun i H => ∃ xs : List V, SqT K H a xs ∧ xs.length = i⟩
theorem turn_enumT {P : Program} {w : World} {K : PySem.W.Frag} {elts : List Expr} {kk : Nat} {tpos : Pos} (a e it : Addr) :
    Turn P w K (.Tuple elts kk tpos) (IteT K a) [e, it] e (fun i h => (∃ old, IsEnum h e it ((i : Nat) : Int) old) ∧ h.IsTupleIter it a i ∧ e ≠ it ∧ a ≠ it ∧ a ≠ e) where
  mem := by simp
  obj := fun i h st b hb => by
    obtain ⟨⟨old, he⟩, ⟨o, ho, hc, hd⟩, _⟩ := st
    have e' : b = e ∨ b = it := by simpa using hb
    rcases e' with z | z
    · rw [z]; exact ⟨_, he, fun v q => nomatch q⟩
    · rw [z]; exact ⟨o, ho, fun v q => by rw [hd] at q; cases q⟩
  keep := fun i h h' st k => let ⟨⟨old, he⟩, hi, hne⟩ := st; ⟨⟨old, k e (by simp) _ he⟩, hi.at fun o q => k it (by simp) o q, hne⟩
  item := by
    intro X hP hw hK hc i pins s σ H E I hf st hg
    subst hP hw hK
    obtain ⟨⟨old, he⟩, hit, hne, hai, hae⟩ := st
    obtain ⟨xs, x, hq, hx⟩ := hg
    obtain ⟨its, rv, p, hz⟩ := I.tuple hq
    obtain ⟨u, hu, ru⟩ := rv.get hx
    have hel : e < s.heap.objs.size := Heap.lt_size he
    have hil : it < s.heap.objs.size := by obtain ⟨_, q, _⟩ := hit; exact Heap.lt_size q
    have hu' : its.toArray[i]? = some u := by simpa using hu
    have hlt : i < its.toArray.size := (Array.getElem?_eq_some_iff.mp hu').1
    have Dr := Draws.tuple (prog := X.prog) (w := X.w) (A := X.A.in1) (by exact I.ok.hd hc) it a hai its.toArray
    refine wpAny_pyNext_enum_itemD Dr he ⟨hit, p⟩ hlt hne (by simp; exact ⟨hne, Ne.symm hae⟩) fun x' h' tk hPx ho hit' hT hsz hk => ?_
    have hxx : x' = u := by
      have hPx : its.toArray[i]? = some x' := hPx
      rw [hu'] at hPx
      exact (Option.some.inj hPx).symm
    subst hxx
    refine ⟨_, rfl, wpAny_letOwnedTupleGo_enum (s := { s with heap := h', toks := tk + 1 }) ho fun h'' he' sb => ?_⟩
    have hT2 : h''.get? s.heap.objs.size = some { cls := .type "tuple", data := .seq #[.int i tk, x'] } := (sb.2 _ (Nat.ne_of_gt hel)).trans hT
    have new : ObjOk X.prog X.w (upd H s.heap.objs.size (.tup [.int (i : Nat), x])) h'' s.heap.objs.size (.tup [.int (i : Nat), x]) :=
      ⟨by show 2 ≤ sizeLine; decide, [.int i tk, x'], .cons ⟨_, rfl⟩ (.cons ru .nil), ⟨_, hT2, rfl, _, rfl⟩⟩
    have I1 : Inv X pins σ (upd H s.heap.objs.size (.tup [.int (i : Nat), x])) { s with heap := h'', toks := tk + 1 } :=
      I.turnedNew (ch := [e, it]) (fun b ob hb q => (sb.2 b (fun z => hb (by simp [z]))).trans (hk b ob (fun z => hb (by simp [z])) (fun z => hb (by simp [z])) q)) hf (Nat.le_refl _) new
    refine ⟨.ref s.heap.objs.size, _, I1, rfl, ⟨_, x, rfl, I.hok.fresh (Nat.le_refl _), rfl, fun ys hy => by rw [I.tuple_inj hy hq]; exact hx⟩, ⟨⟨x', ?_⟩, hit'.1.at fun o q => (sb.2 it (Ne.symm hne)).trans q, hne, hai, hae⟩, fun b hb => ?_⟩
    · have e1 : ((i + 1 : Nat) : Int) = (i : Int) + 1 := by omega
      rw [e1]; exact he'
    · have hb' : b < s.heap.objs.size := by
        have e' : b = e ∨ b = it := by simpa using hb
        rcases e' with z | z
        · rw [z]; exact hel
        · rw [z]; exact hil
      rw [upd_ne (Nat.ne_of_lt hb')]
      exact (hf b hb).1
  done := by
    intro X hP hw hK hc i pins s σ H E I hf st hg
    subst hP hw hK
    obtain ⟨⟨old, he⟩, hit, hne, hai, hae⟩ := st
    obtain ⟨xs, hq, hx⟩ := hg
    obtain ⟨its, rv, p, hz⟩ := I.tuple hq
    obtain ⟨f0, f1, f2, f3, f4, f5⟩ := hf it (by simp)
    have hl := rv.length
    have hi : i = its.toArray.size := by simp; omega
    have Dr := Draws.tuple (prog := X.prog) (w := X.w) (A := X.A.in1) (by exact I.ok.hd hc) it a hai its.toArray
    exact wpAny_pyNext_enum_endD Dr he ⟨by rw [← hi]; exact hit, p⟩ fun h' eb => ⟨rfl, I.turned (t' := s.toks) (fun b o hb q => eb b o hb q) f0 f1 f3 f4 f5⟩
  self := fun A i s Q E st h => let ⟨⟨_, he⟩, _⟩ := st; wpAny_pyIter_enum he h
def iEnumA (K : PySem.W.Frag) (ta : TA) : TI := fun σ H R => ta σ H fun vs H1 => ∃ a xs, vs = [.ref a] ∧ ((SqL K H1 a xs ∧ R (Ite K a) H1) ∨ (SqT K H1 a xs ∧ R (IteT K a) H1))
theorem pi_enumA {X : Cx} {e : Expr} {ta : TA} {p pos tpos : Pos} {elts : List Expr} {kk : Nat} (hg : Gl X "enumerate") (hm : X.mg "enumerate" = none) (ha : PA X [e] ta) (hs : starEach [e] X.env = [(false, eval e X.env)] := by rfl) :
    PI X (.Tuple elts kk tpos) (.Call (.Name "enumerate" p) [e] [] pos) (iEnumA X.K ta) := by
  refine ⟨fun pins s σ H R I h => ?_⟩
  refine Call_ (ld_blt I hg hm boot_enumerate (PyProof.Rows.callWith_type1 (thn (ha.run pos pins s σ H _ I h) fun us s1 ⟨vs, H1, I1, r1, q1⟩ => ?_) hs rfl))
  obtain ⟨a, xs, ex, q⟩ := q1
  subst ex
  cases r1 with
  | cons r rr =>
    cases rr
    cases r
    have fr : ∀ b, b ∈ [s1.heap.objs.size + 1, s1.heap.objs.size] → FpOk X pins H1 b := fun b hb => by
      have e' : b = s1.heap.objs.size + 1 ∨ b = s1.heap.objs.size := by simpa using hb
      have hle : s1.heap.objs.size ≤ b := by
        rcases e' with z | z
        · rw [z]; exact Nat.le_add_right _ _
        · rw [z]; exact Nat.le_refl _
      exact I1.fpOk hle (I1.hok.fresh hle)
    rcases q with ⟨hq, q⟩ | ⟨hq, q⟩
    · obtain ⟨its, rv, p', hz⟩ := I1.list hq
      refine call_enumerate_list p'.isList fun h' he hit hsz hk => wpAny_pyIter_enum he ?_
      have I2 : Inv X pins σ H1 { s1 with heap := h' } := I1.kept (t' := s1.toks) hk
      exact ⟨s1.heap.objs.size + 1, [s1.heap.objs.size + 1, s1.heap.objs.size], _, _, H1, rfl, I2, turn_enum a (s1.heap.objs.size + 1) s1.heap.objs.size, ⟨⟨.none, he⟩, hit, Nat.succ_ne_self _⟩, fr, q⟩
    · obtain ⟨its, rv, p', hz⟩ := I1.tuple hq
      have ha : a < s1.heap.objs.size := by obtain ⟨_, g, _⟩ := p'; exact Heap.lt_size g
      refine call_enumerate_tuple p' fun h' he hit hsz hk => wpAny_pyIter_enum he ?_
      have I2 : Inv X pins σ H1 { s1 with heap := h' } := I1.kept (t' := s1.toks) hk
      exact ⟨s1.heap.objs.size + 1, [s1.heap.objs.size + 1, s1.heap.objs.size], _, _, H1, rfl, I2, turn_enumT a (s1.heap.objs.size + 1) s1.heap.objs.size, ⟨⟨.none, he⟩, hit, Nat.succ_ne_self _, Nat.ne_of_lt ha, Nat.ne_of_lt (Nat.lt_succ_of_lt ha)⟩, fr, q⟩
theorem walk_enumT {K : PySem.W.Frag} {a : Addr} {xs : List V} : Walk (IteT K a) xs.length (fun H => SqT K H a xs) (YPair (fun i => some (.int (i : Nat))) (fun i => xs[i]?)) := by
  refine ⟨fun i _ hi q => ⟨xs, xs[i], q, by simp [hi]⟩, fun _ q => ⟨xs, q, rfl⟩, fun i H v H' _ q y => ?_⟩
  obtain ⟨T, x, h1, h2, h3, h4⟩ := y
  exact ⟨T, .int (i : Nat), x, h1, h2, h3, rfl, h4 xs q⟩
section
variable {X : Cx} {cl : Nat → Addr} {a : Expr} {ms : MA} {p pos : Pos}
@[simp] def mItEn (ms : MA) : MI := fun δ μ => match ms δ μ with
  | some ([.dat (.lst xs)], μ1) => some (enumD 0 xs, yes, μ1)
  | some ([.dat (.tup xs)], μ1) => some (enumD 0 xs, yes, μ1)
  | _ => none
theorem si_enumA {elts : List Expr} {kk : Nat} {tpos : Pos} (hm : X.mg "enumerate" = none) (ha : SA X cl [a] ms) (hg : Gl X "enumerate" := by rfl) (hs : starEach [a] X.env = [(false, eval a X.env)] := by rfl) :
    SI X cl (.Tuple elts kk tpos) (.Call (.Name "enumerate" p) [a] [] pos) (mItEn ms) := by
  refine PI.weak (pi_enumA hg hm ha hs) fun σ H Q ⟨F, α, δ, μ, xs, gd, μ', C, Ee, hm, k⟩ => ?_
  unfold mItEn at hm
  split at hm
  · rename_i ys μ1 h1
    cases hm
    refine ⟨F, α, δ, μ, _, μ', C, Ee, h1, fun vs F1 H1 e1 c1 q1 => ?_⟩
    obtain ⟨v, rfl, q2⟩ := args1 q1
    cases q2 with
    | @lst ad us ds g1 g2 =>
      refine ⟨ad, us, rfl, .inl ⟨SqL.of (c1.sub _ _ g1), k _ F1 H1 e1 c1 ⟨fun H => SqL X.K H ad us, YPair (fun i => some (.int (i : Nat))) (fun i => us[i]?), ?_, fun F2 α2 μ2 H2 s1 _ c2 _ => SqL.of ((s1.trans c2.sub) _ _ g1), fun i d F2 α2 μ2 H2 x H3 hd sm _ c _ y => ?_⟩⟩⟩
      · rw [enumD_len, ← g2.length]
        exact walk_enum
      · obtain ⟨T, v1, v2, rfl, hT, rfl, l1, l2⟩ := y
        obtain ⟨d2, k2, rfl⟩ := enumD_get hd
        obtain ⟨u2, l3, r2⟩ := g2.get k2
        have l2' : us[i]? = some v2 := l2
        rw [l3] at l2'
        cases l2'
        cases l1
        rw [Nat.zero_add]
        exact c.pair hT (.int _) (r2.mono sm)
  · rename_i ys μ1 h1
    cases hm
    refine ⟨F, α, δ, μ, _, μ', C, Ee, h1, fun vs F1 H1 e1 c1 q1 => ?_⟩
    obtain ⟨v, rfl, q2⟩ := args1 q1
    cases q2 with
    | @tup ad us ds g1 g2 =>
      refine ⟨ad, us, rfl, .inr ⟨Same.sqT c1.sub g1, k _ F1 H1 e1 c1 ⟨fun H => SqT X.K H ad us, YPair (fun i => some (.int (i : Nat))) (fun i => us[i]?), ?_, fun F2 α2 μ2 H2 s1 _ c2 _ => Same.sqT (s1.trans c2.sub) g1, fun i d F2 α2 μ2 H2 x H3 hd sm _ c _ y => ?_⟩⟩⟩
      · rw [enumD_len, ← g2.length]
        exact walk_enumT
      · obtain ⟨T, v1, v2, rfl, hT, rfl, l1, l2⟩ := y
        obtain ⟨d2, k2, rfl⟩ := enumD_get hd
        obtain ⟨u2, l3, r2⟩ := g2.get k2
        have l2' : us[i]? = some v2 := l2
        rw [l3] at l2'
        cases l2'
        cases l1
        rw [Nat.zero_add]
        exact c.pair hT (.int _) (r2.mono sm)
  · cases hm
end
end DL
set_option Elab.async false
set_option linter.all false
set_option maxRecDepth 100000
set_option maxHeartbeats 1000000

namespace DL
open PySem PySem.Spec PyProof.Rows L2
def lcLoop2 (gd : Mu → Bool) (t : TGT) (mt : MT) (mi1 : MI) (t1 : TGT) (mt1 : MT) (me : ME) (vs1 : List Nat) (δ : Sl) : List D → List D → Mu → Option (List D × Mu)
  | [], acc, μ => if gd μ = true then some (acc, μ) else none
  | x :: xs, acc, μ => if gd μ = true then match t x δ with
      | none => none
      | some δ1 => match mt δ1 μ with
        | none => none
        | some (false, μ1) => lcLoop2 gd t mt mi1 t1 mt1 me vs1 δ xs acc μ1
        | some (true, μ1) => match mi1 δ1 μ1 with
          | none => none
          | some (ys, gd1, μ2) => match lcLoop gd1 t1 mt1 me (wipeR δ1 vs1) ys acc μ2 with
            | none => none
            | some (acc', μ3) => lcLoop2 gd t mt mi1 t1 mt1 me vs1 δ xs acc' μ3
    else none
@[simp] def mLc2 (mi : MI) (t : TGT) (mt : MT) (mi1 : MI) (t1 : TGT) (mt1 : MT) (me : ME) (vs vs1 : List Nat) : ME := fun δ μ => match mi δ μ with
  | none => none
  | some (xs, gd, μ1) => match lcLoop2 gd t mt mi1 t1 mt1 me vs1 (wipeR δ vs) xs [] μ1 with
    | none => none
    | some (ys, μ2) => some (.fr ys, μ2)
section
variable {X : Cx} {cl : Nat → Addr} {K : PySem.W.Frag}
theorem it_gen {J : It} {n : Nat} {G : Hp → Prop} {Y : Nat → Hp → V → Hp → Prop} (w : Walk J n G Y) {B : V → Hp → (Hp → Prop) → Prop} {Qd : Hp → Prop} {H0 : Hp} (Pv : Nat → Hp → Prop) (h0 : Pv 0 H0) (hG : ∀ i H, i ≤ n → Pv i H → G H)
    (hs : ∀ i x H H', i < n → Pv i H → Y i H x H' → B x H' (Pv (i + 1))) (hd : ∀ H, Pv n H → Qd H) :
    ∃ W : Nat → Nat → Hp → Prop, (∃ m, W 0 m H0) ∧ ∀ i m H, W i m H → (J.stop i H ∧ Qd H) ∨ (J.go i H ∧ ∃ Nx : Hp → Prop, (∀ H', Nx H' → ∃ m', m' < m ∧ W (i + 1) m' H') ∧ ∀ x H', J.yld i H x H' → B x H' Nx) := by
  refine ⟨fun i m H => m = n - i ∧ i ≤ n ∧ Pv i H, ⟨n, by simp, Nat.zero_le _, h0⟩, ?_⟩
  rintro i m H ⟨rfl, hi, p⟩
  have q := hG i H hi p
  by_cases hlt : i < n
  · exact .inr ⟨w.goes i H hlt q, Pv (i + 1), fun H' p' => ⟨n - (i + 1), by omega, rfl, hlt, p'⟩, fun x H' y => hs i x H H' hlt p (w.yields i H x H' hlt q y)⟩
  · have e : i = n := by omega
    subst e
    exact .inl ⟨w.stops H q, hd H p⟩
theorem EnvOk.same {F F' : Hp} {α : List Addr} {σ : L2.St} {δ : Sl} (h : EnvOk K cl F α σ δ) (sm : Same F F') : EnvOk K cl F' α σ δ := by
  refine ⟨h.1, fun i d q => ?_, h.2.2⟩
  obtain ⟨v, h1, h2⟩ := h.2.1 i d q
  exact ⟨v, h1, h2.mono sm⟩
theorem lcLoop_gd {gd : Mu → Bool} {t : TGT} {mt : MT} {me : ME} {δ : Sl} {xs acc : List D} {μ : Mu} {z : List D × Mu} (h : lcLoop gd t mt me δ xs acc μ = some z) : gd μ = true := by
  cases xs with
  | nil =>
    unfold lcLoop at h
    split at h
    · assumption
    · cases h
  | cons x r =>
    unfold lcLoop at h
    split at h
    · assumption
    · cases h
theorem lcLoop2_gd {gd : Mu → Bool} {t t1 : TGT} {mt mt1 : MT} {mi1 : MI} {me : ME} {δ : Sl} {vs1 : List Nat} {xs acc : List D} {μ : Mu} {z : List D × Mu} (h : lcLoop2 gd t mt mi1 t1 mt1 me vs1 δ xs acc μ = some z) : gd μ = true := by
  cases xs with
  | nil =>
    unfold lcLoop2 at h
    split at h
    · assumption
    · cases h
  | cons x r =>
    unfold lcLoop2 at h
    split at h
    · assumption
    · cases h
/-- the inner walk, the list being made at D0 -/
theorem lc_inner {mt1 : MT} {me : ME} {t1 : TGT} {g1 : TG} {vs1 : List Nat} (hg1 : TgSem K cl g1 t1 vs1) {σ : L2.St} {δ : Sl} {F1 H1 F H : Hp} {α : List Addr} {μ μ' : Mu} {acc ys acc' : List D} {us : List V} {D0 : Addr} {J : It} {gd : Mu → Bool} {Nx : Hp → Prop}
    (e : Evo F1 α H1 F α H) (hD : H1 D0 = none) (aD : D0 ∉ α) (C : Conc K cl F α μ H) (Ee : EnvOk K cl F α σ δ) (fD : F D0 = none) (dD : H D0 = some (.lst us)) (q : Reps K cl F us acc) (W : WalkD K cl F α J ys gd)
    (h : lcLoop gd t1 mt1 me (wipeR δ vs1) ys acc μ = some (acc', μ'))
    (hx : ∀ F' H' us', Evo F1 α H1 F' α H' → Same F F' → Conc K cl F' α μ' H' → F' D0 = none → H' D0 = some (.lst us') → Reps K cl F' us' acc' → Nx H') :
    ∃ W1 : Nat → Nat → Hp → Prop, (∃ m, W1 0 m H) ∧ ∀ j k H, W1 j k H → (J.stop j H ∧ Nx H) ∨ (J.go j H ∧ ∃ Nx1 : Hp → Prop, (∀ H', Nx1 H' → ∃ k', k' < k ∧ W1 (j + 1) k' H') ∧ ∀ x H', J.yld j H x H' →
      g1 x (wipe σ vs1) H' fun σ3 H5 => wipe σ3 vs1 = wipe σ vs1 ∧ tmt K cl mt1 σ3 H5 fun b H6 => if b = true then tm K cl me σ3 H6 fun y H7 => ∃ acc, H7 D0 = some (.lst acc) ∧ acc.length < sizeLine ∧ Nx1 (upd H7 D0 (.lst (acc ++ [y]))) else Nx1 H6) := by
  obtain ⟨G, Y, w, hG, hY⟩ := W
  refine it_gen w (B := fun x H' Nx1 => g1 x (wipe σ vs1) H' fun σ3 H5 => wipe σ3 vs1 = wipe σ vs1 ∧ tmt K cl mt1 σ3 H5 fun b H6 => if b = true then tm K cl me σ3 H6 fun y H7 => ∃ acc, H7 D0 = some (.lst acc) ∧ acc.length < sizeLine ∧ Nx1 (upd H7 D0 (.lst (acc ++ [y]))) else Nx1 H6)
    (fun i H2 => ∃ F2 μ3 acc us, Evo F1 α H1 F2 α H2 ∧ Same F F2 ∧ Conc K cl F2 α μ3 H2 ∧ F2 D0 = none ∧ H2 D0 = some (.lst us) ∧ Reps K cl F2 us acc ∧ lcLoop gd t1 mt1 me (wipeR δ vs1) (ys.drop i) acc μ3 = some (acc', μ')) ?_ ?_ ?_ ?_
  · exact ⟨F, μ, acc, us, e, Same.refl F, C, fD, dD, q, h⟩
  · rintro i H2 _ ⟨F2, μ3, acc, us, e2, s2, c2, f2, d2, q2, h3⟩
    exact hG F2 α μ3 H2 s2 ⟨[], by simp⟩ c2 (lcLoop_gd h3)
  · rintro i x H2 H3 hi ⟨F2, μ3, acc, us, e2, s2, c2, f2, d2, q2, h3⟩ y
    have gt := lcLoop_gd h3
    rw [List.drop_eq_getElem_cons hi] at h3
    unfold lcLoop at h3
    rw [if_pos gt] at h3
    split at h3
    · cases h3
    rename_i δ1 h4
    obtain ⟨F3, e3, c3, r3⟩ := hY i ys[i] F2 α μ3 H2 x H3 (List.getElem?_eq_getElem hi) s2 ⟨[], by simp⟩ c2 gt y
    have keepD : ∀ {F4 H4 : Hp}, Evo F2 α H2 F4 α H4 → F4 D0 = none ∧ H4 D0 = some (.lst us) := fun {F4 H4} e4 => by
      refine ⟨?_, e4.hh D0 _ d2 aD⟩
      cases q : F4 D0 with
      | none => rfl
      | some u =>
        have := e4.fre D0 u f2 q
        rw [d2] at this
        cases this
    refine hg1 F3 α (wipe σ vs1) (wipeR δ vs1) δ1 H3 x ys[i] _ c3.sub (((env_wipe (Ee.same s2) vs1)).step e3) r3 h4 fun σ1 en1 hw => ⟨by rw [hw, wipe_eq (wipe_length σ vs1) fun j hj => wipe_out hj], ?_⟩
    split at h3
    · cases h3
    · rename_i μ4 h5
      refine ⟨F3, α, δ1, μ3, _, μ4, c3, en1, h5, fun F4 H4 e4 c4 => iteF ?_⟩
      obtain ⟨k1, k2⟩ := keepD (e3.trans e4)
      exact ⟨F4, μ4, acc, us, e2.trans (e3.trans e4), s2.trans (e3.trans e4).ff, c4, k1, k2, q2.mono (e3.trans e4).ff, h3⟩
    · rename_i μ4 h5
      split at h3
      · cases h3
      rename_i r5 μ5 h6
      split at h3
      · cases h3
      rename_i d h7
      split at h3
      · rename_i hl
        refine ⟨F3, α, δ1, μ3, _, μ4, c3, en1, h5, fun F4 H4 e4 c4 => iteT ⟨F4, α, δ1, μ4, r5, μ5, c4, en1.step e4, h6, fun v F5 H5 e5 c5 r5' => ?_⟩⟩
        obtain ⟨F6, e6, c6, r6⟩ := freeze e5 c5 r5'
        rw [froz_dat h7] at r6
        have eAll := e3.trans (e4.trans e6)
        obtain ⟨k1, k2⟩ := keepD eAll
        have q6 := q2.mono eAll.ff
        refine ⟨us, k2, sz_lt (by rw [q6.length]; exact hl), F6, μ5, acc ++ [d], us ++ [v], (e2.trans eAll).out1 (u := .lst us) hD, s2.trans eAll.ff, c6.out1 k1 aD k2, k1, upd_same, q6.append (.cons r6 .nil), h3⟩
      · cases h3
  · rintro H2 ⟨F2, μ3, acc, us, e2, s2, c2, f2, d2, q2, h3⟩
    rw [List.drop_length] at h3
    unfold lcLoop at h3
    split at h3
    · cases h3
      exact hx F2 H2 us e2 s2 c2 f2 d2 q2
    · cases h3
theorem lc2_imp {mi mi1 : MI} {t t1 : TGT} {g g1 : TG} {mt mt1 : MT} {me : ME} {vs vs1 : List Nat} (hg : TgSem K cl g t vs) (hg1 : TgSem K cl g1 t1 vs1) : ∀ σ H Q, tm K cl (mLc2 mi t mt mi1 t1 mt1 me vs vs1) σ H Q → tLc2 (tmi K cl mi) g (tmt K cl mt) (tmi K cl mi1) g1 (tmt K cl mt1) (tm K cl me) vs vs1 σ H Q := fun σ H Q ⟨F, α, δ, μ, z, μ', C, Ee, hm, k⟩ => by
  unfold mLc2 at hm
  split at hm
  · cases hm
  rename_i xs gd μ1 h1
  split at hm
  · cases hm
  rename_i ys μ2 h2
  cases hm
  refine ⟨F, α, δ, μ, xs, gd, μ1, C, Ee, h1, fun J F1 H1 e1 c1 W D0 hD => ?_⟩
  obtain ⟨G, Y, w, hG, hY⟩ := W
  have fD : F1 D0 = none := by
    cases q : F1 D0 with
    | none => rfl
    | some u =>
      rw [c1.sub D0 u q] at hD
      cases hD
  have aD : D0 ∉ α := fun ha => by
    obtain ⟨us, q⟩ := cell_some c1 ha
    rw [hD] at q
    cases q
  refine it_gen w (B := fun x H' Nx => g x (wipe σ vs) H' fun σ2 H2 => wipe σ2 vs = wipe σ vs ∧ tmt K cl mt σ2 H2 fun b H3 => if b = true then tmi K cl mi1 σ2 H3 fun J1 H4 => ∃ W1 : Nat → Nat → Hp → Prop, (∃ m, W1 0 m H4) ∧ ∀ j k H, W1 j k H → (J1.stop j H ∧ Nx H) ∨ (J1.go j H ∧ ∃ Nx1 : Hp → Prop, (∀ H', Nx1 H' → ∃ k', k' < k ∧ W1 (j + 1) k' H') ∧ ∀ x H', J1.yld j H x H' → g1 x (wipe σ2 vs1) H' fun σ3 H5 => wipe σ3 vs1 = wipe σ2 vs1 ∧ tmt K cl mt1 σ3 H5 fun b H6 => if b = true then tm K cl me σ3 H6 fun y H7 => ∃ acc, H7 D0 = some (.lst acc) ∧ acc.length < sizeLine ∧ Nx1 (upd H7 D0 (.lst (acc ++ [y]))) else Nx1 H6) else Nx H3)
    (fun i H2 => ∃ F2 μ3 acc us, Evo F1 α H1 F2 α H2 ∧ Conc K cl F2 α μ3 H2 ∧ F2 D0 = none ∧ H2 D0 = some (.lst us) ∧ Reps K cl F2 us acc ∧ lcLoop2 gd t mt mi1 t1 mt1 me vs1 (wipeR δ vs) (xs.drop i) acc μ3 = some (ys, μ')) ?_ ?_ ?_ ?_
  · obtain ⟨e2, c2, r2⟩ := c1.newL hD .nil
    exact ⟨F1, μ1, [], [], e2, c2, fD, upd_same, .nil, h2⟩
  · rintro i H2 _ ⟨F2, μ3, acc, us, e2, c2, f2, d2, q2, h3⟩
    exact hG F2 α μ3 H2 e2.ff ⟨[], by simp⟩ c2 (lcLoop2_gd h3)
  · rintro i x H2 H3 hi ⟨F2, μ3, acc, us, e2, c2, f2, d2, q2, h3⟩ y
    have gt := lcLoop2_gd h3
    rw [List.drop_eq_getElem_cons hi] at h3
    unfold lcLoop2 at h3
    rw [if_pos gt] at h3
    split at h3
    · cases h3
    rename_i δ1 h4
    obtain ⟨F3, e3, c3, r3⟩ := hY i xs[i] F2 α μ3 H2 x H3 (List.getElem?_eq_getElem hi) e2.ff ⟨[], by simp⟩ c2 gt y
    have keepD : ∀ {F4 H4 : Hp}, Evo F2 α H2 F4 α H4 → F4 D0 = none ∧ H4 D0 = some (.lst us) := fun {F4 H4} e4 => by
      refine ⟨?_, e4.hh D0 _ d2 aD⟩
      cases q : F4 D0 with
      | none => rfl
      | some u =>
        have := e4.fre D0 u f2 q
        rw [d2] at this
        cases this
    refine hg F3 α (wipe σ vs) (wipeR δ vs) δ1 H3 x xs[i] _ c3.sub ((env_wipe ((Ee.step e1).step e2) vs).step e3) r3 h4 fun σ1 en1 hw => ⟨by rw [hw, wipe_eq (wipe_length σ vs) fun j hj => wipe_out hj], ?_⟩
    split at h3
    · cases h3
    · rename_i μ4 h5
      refine ⟨F3, α, δ1, μ3, _, μ4, c3, en1, h5, fun F4 H4 e4 c4 => iteF ?_⟩
      obtain ⟨k1, k2⟩ := keepD (e3.trans e4)
      exact ⟨F4, μ4, acc, us, e2.trans (e3.trans e4), c4, k1, k2, q2.mono (e3.trans e4).ff, h3⟩
    · rename_i μ4 h5
      split at h3
      · cases h3
      rename_i zs gd1 μ5 h6
      split at h3
      · cases h3
      rename_i acc2 μ6 h7
      refine ⟨F3, α, δ1, μ3, _, μ4, c3, en1, h5, fun F4 H4 e4 c4 => iteT ⟨F4, α, δ1, μ4, zs, gd1, μ5, c4, en1.step e4, h6, fun J1 F5 H5 e5 c5 W1 => ?_⟩⟩
      have eAll := e3.trans (e4.trans e5)
      obtain ⟨k1, k2⟩ := keepD eAll
      exact lc_inner hg1 (e2.trans eAll) hD aD c5 ((en1.step e4).step e5) k1 k2 (q2.mono eAll.ff) W1 h7 fun F' H' us' e' s' c' f' d' q' => ⟨F', μ6, acc2, us', e', c', f', d', q', h3⟩
  · rintro H2 ⟨F2, μ3, acc, us, e2, c2, f2, d2, q2, h3⟩
    rw [List.drop_length] at h3
    unfold lcLoop2 at h3
    split at h3
    · cases h3
      exact k _ F2 H2 (e1.trans e2) c2 ⟨D0, us, rfl, e1.dom D0 hD, f2, aD, d2, q2⟩
    · cases h3
theorem se_lc2 {elt tg iter tg1 iter1 : Expr} {ifs ifs1 : List Expr} {scope : Scope} {own : List (Str × Nat)} {vs1 : List Nat} {pos : Pos} {mi mi1 : MI} {t t1 : TGT} {g g1 : TG} {mt mt1 : MT} {me : ME} (hN : X.N.Nodup) (hi : SI X cl tg iter mi) (hgs : TgSem X.K cl g t (own.map (·.2))) (hgs1 : TgSem X.K cl g1 t1 vs1)
    (hg : ∀ (s : Shared) (H : Hp) (C : Addr) (cc : List (Str × Addr)) (fp : List Addr), PG (X.blk s H scope (compEnvC scope cc C X.env) fp) tg g)
    (ht : ∀ (s : Shared) (H : Hp) (C : Addr) (cc : List (Str × Addr)) (fp : List Addr), PTs (X.blk s H scope (compEnvC scope cc C X.env) fp) ifs (tmt X.K cl mt))
    (hi1 : ∀ (s : Shared) (H : Hp) (C : Addr) (cc : List (Str × Addr)) (fp : List Addr), PI (X.blk s H scope (compEnvC scope cc C X.env) fp) tg1 iter1 (tmi X.K cl mi1))
    (hg1 : ∀ (s : Shared) (H : Hp) (C : Addr) (cc : List (Str × Addr)) (fp : List Addr), PG (X.blk s H scope (compEnvC scope cc C X.env) fp) tg1 g1)
    (ht1 : ∀ (s : Shared) (H : Hp) (C : Addr) (cc : List (Str × Addr)) (fp : List Addr), PTs (X.blk s H scope (compEnvC scope cc C X.env) fp) ifs1 (tmt X.K cl mt1))
    (he : ∀ (s : Shared) (H : Hp) (C : Addr) (cc : List (Str × Addr)) (fp : List Addr), PE (X.blk s H scope (compEnvC scope cc C X.env) fp) elt (tm X.K cl me)) (ok : BlkOk X.N X.env.scope scope own) (hv : ∀ i ∈ vs1, i ∈ own.map (·.2) := by decide) (hc : X.calm = true := by rfl) (hs : ∀ x, foldedSetIterable iter X.env x = pure x := by intro _; rfl) (hs1 : ∀ env x, foldedSetIterable iter1 env x = pure x := by intro _ _; rfl) :
    SE X cl (.ListComp elt [⟨tg, iter, ifs, 0⟩, ⟨tg1, iter1, ifs1, 0⟩] scope pos) (mLc2 mi t mt mi1 t1 mt1 me (own.map (·.2)) vs1) := PE.weak (pe_lc2 hc hN hi ok hv hg ht hi1 hg1 ht1 he hs hs1) (lc2_imp hgs hgs1)
theorem ss_setLc2 {i : Nat} {y : Str} {py spos : Pos} {elt tg iter tg1 iter1 : Expr} {ifs ifs1 : List Expr} {scope : Scope} {own : List (Str × Nat)} {vs1 : List Nat} {pos : Pos} {mi mi1 : MI} {t t1 : TGT} {g g1 : TG} {mt mt1 : MT} {me : ME} (hN : X.N.Nodup) (hi : SI X cl tg iter mi) (hgs : TgSem X.K cl g t (own.map (·.2))) (hgs1 : TgSem X.K cl g1 t1 vs1)
    (hg : ∀ (s : Shared) (H : Hp) (C : Addr) (cc : List (Str × Addr)) (fp : List Addr), PG (X.blk s H scope (compEnvC scope cc C X.env) fp) tg g)
    (ht : ∀ (s : Shared) (H : Hp) (C : Addr) (cc : List (Str × Addr)) (fp : List Addr), PTs (X.blk s H scope (compEnvC scope cc C X.env) fp) ifs (tmt X.K cl mt))
    (hi1 : ∀ (s : Shared) (H : Hp) (C : Addr) (cc : List (Str × Addr)) (fp : List Addr), PI (X.blk s H scope (compEnvC scope cc C X.env) fp) tg1 iter1 (tmi X.K cl mi1))
    (hg1 : ∀ (s : Shared) (H : Hp) (C : Addr) (cc : List (Str × Addr)) (fp : List Addr), PG (X.blk s H scope (compEnvC scope cc C X.env) fp) tg1 g1)
    (ht1 : ∀ (s : Shared) (H : Hp) (C : Addr) (cc : List (Str × Addr)) (fp : List Addr), PTs (X.blk s H scope (compEnvC scope cc C X.env) fp) ifs1 (tmt X.K cl mt1))
    (he : ∀ (s : Shared) (H : Hp) (C : Addr) (cc : List (Str × Addr)) (fp : List Addr), PE (X.blk s H scope (compEnvC scope cc C X.env) fp) elt (tm X.K cl me)) (ok : BlkOk X.N X.env.scope scope own)
    (hsw : swapsWith (.ListComp elt [⟨tg, iter, ifs, 0⟩, ⟨tg1, iter1, ifs1, 0⟩] scope pos) (some (.Name y py)) spos.line X.env = pure true) (hv : ∀ i ∈ vs1, i ∈ own.map (·.2) := by decide) (hy : X.N[i]? = some y := by rfl) (hyl : X.env.scope.names.lookup y = some .local := by rfl) (hc : X.calm = true := by rfl) (hs : ∀ x, foldedSetIterable iter X.env x = pure x := by intro _; rfl) (hs1 : ∀ env x, foldedSetIterable iter1 env x = pure x := by intro _ _; rfl) :
    SS X cl (.Assign [.Name y py] (.ListComp elt [⟨tg, iter, ifs, 0⟩, ⟨tg1, iter1, ifs1, 0⟩] scope pos) spos) (mSet i (mLc2 mi t mt mi1 t1 mt1 me (own.map (·.2)) vs1)) :=
  PS.weak (ps_setLc2 hc hN hy hyl hsw hi ok hv hg ht hi1 hg1 ht1 he hs hs1) fun E σ H h => asg_imp (lc2_imp hgs hgs1) E σ H (set_imp E σ H h)
end
end DL
set_option Elab.async false
set_option linter.all false
set_option maxRecDepth 100000
set_option maxHeartbeats 1000000

namespace DL
open PySem PySem.Spec PyProof.Rows L2
@[simp] def elR : El → R
  | .d x => .dat x
  | .c j => .cel j
def beqEl : El → El → Bool
  | .d x, .d y => beqD x y
  | .c i, .c j => i == j
  | _, _ => false
def beqEls : List El → List El → Bool
  | [], [] => true
  | a :: as, b :: bs => beqEl a b && beqEls as bs
  | _, _ => false
theorem beqEl_eq : ∀ {a b : El}, beqEl a b = true → a = b
  | .d x, .d y, h => by rw [beqD_eq (show beqD x y = true from h)]
  | .c i, .c j, h => by rw [eq_of_beq (show (i == j) = true from h)]
  | .d _, .c _, h => by cases h
  | .c _, .d _, h => by cases h
theorem beqEls_eq : ∀ {a b : List El}, beqEls a b = true → a = b
  | [], [], _ => rfl
  | [], _ :: _, h => by cases h
  | _ :: _, [], h => by cases h
  | a :: as, b :: bs, h => by
    have h' := Bool.and_eq_true_iff.mp (show (beqEl a b && beqEls as bs) = true from h)
    rw [beqEl_eq h'.1, beqEls_eq h'.2]
theorem beqEl_refl : ∀ a : El, beqEl a a = true
  | .d x => beqD_refl x
  | .c i => by simp [beqEl]
theorem beqEls_refl : ∀ a : List El, beqEls a a = true
  | [] => rfl
  | a :: as => by simp [beqEls, beqEl_refl a, beqEls_refl as]
section
variable {X : Cx} {cl : Nat → Addr} {e o a b c tg : Expr} {es : List Expr} {m mo ma mb mc : ME} {pos p : Pos} {K : PySem.W.Frag} {mt : MT} {m1 m2 : MS} {st : Stmt} {sts : List Stmt} {ms : MA}
theorem ElRs.get {F : Hp} {α : List Addr} : ∀ {vs : List V} {es : List El} {i : Nat} {e : El}, ElRs K cl F α vs es → es[i]? = some e → ∃ v, vs[i]? = some v ∧ ElR K cl F α v e
  | _, _, _, _, .nil, h => by simp at h
  | _, _, 0, _, .cons r _, h => by
    simp at h
    subst h
    exact ⟨_, rfl, r⟩
  | _, _, i + 1, _, .cons _ q, h => by
    obtain ⟨v, e, r⟩ := ElRs.get (i := i) q (by simpa using h)
    exact ⟨v, by simpa using e, r⟩
theorem elR_rep {F H H0 : Hp} {α : List Addr} {v : V} {e : El} (h : ElR K cl F α v e) : RepR K cl H0 F α H v (elR e) := by
  cases e with
  | d x => exact h
  | c j => exact h
theorem EnvOk.putE {F : Hp} {α : List Addr} {σ : L2.St} {δ : Sl} {i : Nat} {v : V} {e : El} (h : EnvOk K cl F α σ δ) (r : ElR K cl F α v e) : EnvOk K cl F α (σ.set i (some v)) (δ.set i (elR e)) := by
  cases e with
  | d x => exact h.put i r
  | c j =>
    obtain ⟨a, h1, rfl⟩ := r
    exact h.putC i h1

@[simp] def fIxN : R → R → Mu → Option R
  | .cel k, .dat (.int i), μ => match nOf μ[k]? with
    | some es => match atI es i with
      | some e => some (elR e)
      | none => none
    | none => none
  | x, y, μ => fIx x y μ
theorem atI_els {F : Hp} {α : List Addr} {vs : List V} {es : List El} {i : Int} {e : El} (h : ElRs K cl F α vs es) (q : atI es i = some e) : ∃ v, atI vs i = some v ∧ ElR K cl F α v e := by
  unfold atI at q ⊢
  rw [h.length]
  cases hj : ixN es.length i with
  | none =>
    rw [hj] at q
    cases q
  | some j =>
    rw [hj] at q
    exact h.get q
theorem sem_ixN : OpSem K cl (rIx K) fIxN := by
  intro F α μ H H0 x y rx ry z Q C h1 h2 hz k
  unfold fIxN at hz
  split at hz
  · rename_i kk i
    split at hz
    · rename_i es e1
      split at hz
      · rename_i e e2
        cases hz
        obtain ⟨ad, q1, rfl⟩ := h1
        obtain ⟨vs, q2, q3⟩ := nOf_ok C q1 e1
        obtain ⟨v, e3, q4⟩ := atI_els q3 e2
        exact .inl ⟨ad, vs, i, v, rfl, rep_int h2, SqL.of q2, e3, k _ F H Evo.refl C (elR_rep q4)⟩
      · cases hz
    · cases hz
  · exact sem_ix F α μ H H0 x y _ _ z Q C h1 h2 hz k
theorem se_ixN (ha : SE X cl a ma) (hb : SE X cl b mb) (hs : PlainIx b := by exact fun _ _ => rfl) : SE X cl (.Subscript a b pos) (mOp fIxN ma mb) := PE.weak (pe_ix ix_seq ha hb hs) (op_imp sem_ixN)

@[simp] def fLenN : List R → Mu → Option R
  | [.cel k], μ => match nOf μ[k]? with
    | some es => some (.dat (.int es.length))
    | none => none
  | rs, μ => fLen rs μ
theorem sem_lenN : CbSem K cl (fun xs H Q => ∃ p ys, xs = [.ref p] ∧ (SqL K H p ys ∨ SqT K H p ys) ∧ Q (.int ys.length) H) fLenN := by
  intro F α μ H vs rs z Q C h hz k
  unfold fLenN at hz
  split at hz
  · rename_i kk
    split at hz
    · rename_i es e1
      cases hz
      obtain ⟨v, rfl, ad, h1, rfl⟩ := args1 h
      obtain ⟨us, q1, q2⟩ := nOf_ok C h1 e1
      refine ⟨ad, us, rfl, .inl (SqL.of q1), ?_⟩
      rw [q2.length]
      exact k _ F H Evo.refl C (.int _)
    · cases hz
  · exact sem_len F α μ H vs _ z Q C h hz k
theorem se_lenN (hm : X.mg "len" = none) (ha : SA X cl [a] ms) (hg : Gl X "len" := by rfl) (he : starEach (a :: []) X.env = (false, eval a X.env) :: starEach [] X.env := by rfl) : SE X cl (.Call (.Name "len" p) [a] [] pos) (mCb fLenN ms) := se_cb (pe_callB call_len_seq hg hm (by decide +kernel) ha (he := he)) sem_lenN

@[simp] def mAppN (mo m : ME) : MS := fun δ μ => match mo δ μ with
  | some (.cel k, μ1) => match isLst μ1[k]? with
    | true => match m δ μ1 with
      | some (.fr xs, μ2) => match nOf μ2[k]? with
        | some es => if es.length < 100000 then some (.nx δ ((μ2 ++ [Cel.l xs]).set k (Cel.n (es ++ [El.c μ2.length])))) else none
        | none => none
      | _ => none
    | false => none
  | _ => none
theorem ss_appN {apos cpos : Pos} (ho : SE X cl o mo) (he : SE X cl e m) (hbase : attributeBase o "append" X.env (eval o X.env) = eval o X.env := by rfl)
    (hfew : ((backTo cpos (starEach (e :: []) X.env)).all (fun x => !x.1) && (backToKw cpos (keywordEach [] X.env)).all (fun x => x.1.isSome) && decide ((e :: []).length + ([] : List Keyword).length + (if ([] : List Keyword).isEmpty then 0 else 1) < 30)) = true := by rfl)
    (hline : (apos.endLine == cpos.line) = true := by rfl) (hs : starEach (e :: []) X.env = (false, eval e X.env) :: starEach [] X.env := by rfl) (hplain : (backTo cpos (starEach [] X.env)).any (·.1) = false := by rfl)
    (hsw : swapsWith (.Call (.Attribute o "append" apos) [e] [] cpos) none pos.line X.env = pure false := by rfl) : SS X cl (.Expr (.Call (.Attribute o "append" apos) [e] [] cpos) pos) (mAppN mo m) := by
  refine PS.weak (ps_expr (pe_bm PySem.F.plainAttrs_list PySem.F.slot_list_append PySem.F.type_list_append mt_append ho (pa_cons he pa_nil hs) hbase hfew hline hs hplain) hsw) fun E σ H ⟨F, α, δ, μ, fl, C, Ee, hm, k⟩ => ?_
  unfold mAppN at hm
  split at hm
  · rename_i kk μ1 h1
    split at hm
    · rename_i hil
      split at hm
      · rename_i xs μ2 h2
        split at hm
        · rename_i es h3
          split at hm
          · rename_i hl
            cases hm
            refine ⟨F, α, δ, μ, _, μ1, C, Ee, h1, fun v F1 H1 e1 c1 q1 => ?_⟩
            obtain ⟨ad, q2, rfl⟩ := q1
            obtain ⟨us, q3⟩ := isLst_ok c1 q2 hil
            refine ⟨.inl ⟨rfl, us, SqL.of q3⟩, F1, α, δ, μ1, _, μ2, c1, Ee.step e1, h2, fun w F2 H2 e2 c2 r2 => ?_⟩
            obtain ⟨a', rfl, e3, c3, l3⟩ := mkCell e2 c2 r2.frc
            obtain ⟨ws, q4, q5⟩ := nOf_ok c2 q2 h3
            refine ⟨ad, ws, _, rfl, rfl, q4, sz_lt (by rw [q5.length]; exact hl), ?_⟩
            have q2' : (α ++ [a'])[kk]? = some ad := by rw [List.getElem?_append_left (List.getElem?_eq_some_iff.mp q2).1]; exact q2
            obtain ⟨e5, c5⟩ := c3.putC q2' (ob := .lst (ws ++ [.ref a'])) (c := .n (es ++ [.c μ2.length])) ⟨_, rfl, (q5.mono (Same.refl F2) ⟨[a'], rfl⟩).append (.cons (e := .c μ2.length) ⟨a', l3, rfl⟩ .nil)⟩
            exact k F2 _ σ _ (e1.trans (e3.trans e5)) c5 (((Ee.step e1).step e3).step e5)
          · cases hm
        · cases hm
      · cases hm
    · cases hm
  · cases hm

abbrev MIE := Sl → Mu → Option (List El × (Mu → Bool) × Mu)
def WalkE (K : PySem.W.Frag) (cl : Nat → Addr) (F : Hp) (α : List Addr) (J : It) (xs : List El) (gd : Mu → Bool) : Prop := ∃ (G : Hp → Prop) (Y : Nat → Hp → V → Hp → Prop), Walk J xs.length G Y ∧
  (∀ F1 α1 μ1 H1, Same F F1 → (∃ e, α1 = α ++ e) → Conc K cl F1 α1 μ1 H1 → gd μ1 = true → G H1) ∧
  (∀ (i : Nat) d F1 α1 μ1 H1 x H2, xs[i]? = some d → Same F F1 → (∃ e, α1 = α ++ e) → Conc K cl F1 α1 μ1 H1 → gd μ1 = true → Y i H1 x H2 → ∃ F2, Evo F1 α1 H1 F2 α1 H2 ∧ Conc K cl F2 α1 μ1 H2 ∧ ElR K cl F2 α1 x d)
def tmie (K : PySem.W.Frag) (cl : Nat → Addr) (m : MIE) : TI := fun σ H Q => ∃ F α δ μ xs gd μ', Conc K cl F α μ H ∧ EnvOk K cl F α σ δ ∧ m δ μ = some (xs, gd, μ') ∧
  ∀ J F' H', Evo F α H F' α H' → Conc K cl F' α μ' H' → WalkE K cl F' α J xs gd → Q J H'
abbrev SIE (X : Cx) (cl : Nat → Addr) (tg e : Expr) (m : MIE) : Prop := PI X tg e (tmie X.K cl m)
def gdN (k : Nat) (es : List El) : Mu → Bool := fun μ2 => match nOf μ2[k]? with
  | some fs => beqEls fs es
  | none => false
@[simp] def mItN (m : ME) : MIE := fun δ μ => match m δ μ with
  | some (.cel k, μ1) => match nOf μ1[k]? with
    | some es => some (es, gdN k es, μ1)
    | none => none
  | _ => none
theorem gdN_ok {k : Nat} {es : List El} {μ : Mu} (h : gdN k es μ = true) : nOf μ[k]? = some es := by
  unfold gdN at h
  split at h
  · rename_i fs e
    rw [e, beqEls_eq h]
  · cases h
theorem si_nest (h : SE X cl e m) : SIE X cl tg e (mItN m) := by
  refine PI.weak (pi_list h) fun σ H Q ⟨F, α, δ, μ, xs, gd, μ', C, Ee, hm, k⟩ => ?_
  unfold mItN at hm
  split at hm
  · rename_i kk μ1 h1
    split at hm
    · rename_i xs h2
      cases hm
      refine ⟨F, α, δ, μ, _, μ', C, Ee, h1, fun v F1 H1 e1 c1 q1 => ?_⟩
      obtain ⟨ad, q2, rfl⟩ := q1
      obtain ⟨us, q3, q4⟩ := nOf_ok c1 q2 h2
      refine ⟨ad, rfl, ⟨us, SqL.of q3⟩, k _ F1 H1 e1 c1 ⟨fun H2 => ∃ ws, ws.length = xs.length ∧ SqL X.K H2 ad ws, fun i H2 x H3 => H3 = H2 ∧ ∀ ws, SqL X.K H2 ad ws → ws[i]? = some x, ⟨fun i H2 hi ⟨ws, l, hs⟩ => ?_, fun H2 ⟨ws, l, hs⟩ => ?_, fun i H2 x H3 hi ⟨ws, l, hs⟩ y => ?_⟩, fun F2 α2 μ2 H2 sm ex c2 g2 => ?_, fun i d F2 α2 μ2 H2 x H3 hd sm ex c2 g2 y => ?_⟩⟩
      · exact ⟨ws, ws[i]'(by omega), hs, List.getElem?_eq_getElem _⟩
      · exact ⟨ws, hs, by omega⟩
      · exact y
      · obtain ⟨x, rfl⟩ := ex
        obtain ⟨ws, g3, g4⟩ := nOf_ok c2 (by rw [List.getElem?_append_left (List.getElem?_eq_some_iff.mp q2).1]; exact q2) (gdN_ok g2)
        exact ⟨ws, g4.length, SqL.of g3⟩
      · obtain ⟨x', rfl⟩ := ex
        obtain ⟨rfl, hx'⟩ := y
        obtain ⟨ws, g3, g4⟩ := nOf_ok c2 (by rw [List.getElem?_append_left (List.getElem?_eq_some_iff.mp q2).1]; exact q2) (gdN_ok g2)
        obtain ⟨v, g5, g6⟩ := g4.get hd
        have hx := hx' ws (SqL.of g3)
        rw [g5] at hx
        cases hx
        exact ⟨F2, Evo.refl, c2, g6⟩
    · cases hm
  · cases hm
def loopE (gd : Mu → Bool) (i : Nat) (mb : MS) : List El → Sl → Mu → Option Flo
  | [], δ, μ => if gd μ = true then some (.nx δ μ) else none
  | x :: xs, δ, μ => if gd μ = true then match mb (δ.set i (elR x)) μ with
      | some (.nx δ2 μ2) => loopE gd i mb xs δ2 μ2
      | some (.ct δ2 μ2) => loopE gd i mb xs δ2 μ2
      | some (.bk δ2 μ2) => some (.nx δ2 μ2)
      | some (.rt r μ2) => some (.rt r μ2)
      | none => none
    else none
@[simp] def mForE (mi : MIE) (i : Nat) (mb : MS) : MS := fun δ μ => match mi δ μ with
  | none => none
  | some (xs, gd, μ1) => loopE gd i mb xs δ μ1
def lcLoopE (gd : Mu → Bool) (i : Nat) (mt : MT) (me : ME) (δ : Sl) : List El → List D → Mu → Option (List D × Mu)
  | [], acc, μ => if gd μ = true then some (acc, μ) else none
  | x :: xs, acc, μ => if gd μ = true then match mt (δ.set i (elR x)) μ with
        | none => none
        | some (false, μ1) => lcLoopE gd i mt me δ xs acc μ1
        | some (true, μ1) => match me (δ.set i (elR x)) μ1 with
          | none => none
          | some (r, μ2) => match toD r with
            | none => none
            | some d => if acc.length < 100000 then lcLoopE gd i mt me δ xs (acc ++ [d]) μ2 else none
    else none
@[simp] def mLcE (mi : MIE) (i : Nat) (mt : MT) (me : ME) (vs : List Nat) : ME := fun δ μ => match mi δ μ with
  | none => none
  | some (xs, gd, μ1) => match lcLoopE gd i mt me (wipeR δ vs) xs [] μ1 with
    | none => none
    | some (ys, μ2) => some (.fr ys, μ2)
theorem ss_forE {mi : MIE} {i0 : Nat} (hi : SIE X cl tg e mi) (hg : PG X tg (gName i0)) (hb : SSs X cl sts m1) (hp : PassesOwn (model X.prog X.w) X.A X.env X.xe := by exact PassesOwn.never) (hc : X.calm = true := by rfl) (hs : ∀ x, foldedSetIterable e X.env x = pure x := by intro _; rfl) :
    SS X cl (.For tg e sts [] pos) (mForE mi i0 m1) := by
  refine PS.weak (ps_for hp hc hi hg hb hs) fun E σ H ⟨F, α, δ, μ, fl, C, Ee, hm, k⟩ => ?_
  unfold mForE at hm
  split at hm
  · cases hm
  rename_i xs gd μ1 h1
  refine ⟨F, α, δ, μ, xs, gd, μ1, C, Ee, h1, fun J F1 H1 e1 c1 W => ?_⟩
  obtain ⟨G, Y, w, hG, hY⟩ := W
  have gdOf : ∀ {i : Nat} {δ2 : Sl} {μ2 : Mu}, loopE gd i0 m1 (xs.drop i) δ2 μ2 = some fl → gd μ2 = true := by
    intro i δ2 μ2 h
    cases e : xs.drop i with
    | nil =>
      rw [e] at h
      unfold loopE at h
      split at h
      · rename_i z
        exact z
      · cases h
    | cons x r =>
      rw [e] at h
      unfold loopE at h
      split at h
      · rename_i z
        exact z
      · cases h
  refine for_it w (fun i σ2 H2 => ∃ F2 α2 δ2 μ2, Evo F1 α H1 F2 α2 H2 ∧ Conc X.K cl F2 α2 μ2 H2 ∧ EnvOk X.K cl F2 α2 σ2 δ2 ∧ loopE gd i0 m1 (xs.drop i) δ2 μ2 = some fl) ⟨F1, α, δ, μ1, Evo.refl, c1, Ee.step e1, hm⟩ ?_ ?_ ?_
  · rintro i σ2 H2 _ ⟨F2, α2, δ2, μ2, e2, c2, en2, h2⟩
    exact hG F2 α2 μ2 H2 e2.ff e2.ext c2 (gdOf h2)
  · rintro i x σ2 H2 H3 hi ⟨F2, α2, δ2, μ2, e2, c2, en2, h2⟩ y
    have gt := gdOf h2
    rw [List.drop_eq_getElem_cons hi] at h2
    unfold loopE at h2
    rw [if_pos gt] at h2
    obtain ⟨F3, e3, c3, r3⟩ := hY i xs[i] F2 α2 μ2 H2 x H3 (List.getElem?_eq_getElem hi) e2.ff e2.ext c2 gt y
    have en3 := (en2.step e3).putE (i := i0) r3
    generalize δ2.set i0 (elR xs[i]) = δ3 at h2 en3
    show tms X.K cl m1 _ (σ2.set i0 (some x)) H3
    generalize σ2.set i0 (some x) = σ3 at en3 ⊢
    have fin : ∀ {δ4 : Sl} {μ4 : Mu}, loopE gd i0 m1 (xs.drop (i + 1)) δ4 μ4 = some fl → ∀ F4 α4 σ4 H4, Evo F3 α2 H3 F4 α4 H4 → Conc X.K cl F4 α4 μ4 H4 → EnvOk X.K cl F4 α4 σ4 δ4 → ∃ F5 α5 δ5 μ5, Evo F1 α H1 F5 α5 H4 ∧ Conc X.K cl F5 α5 μ5 H4 ∧ EnvOk X.K cl F5 α5 σ4 δ5 ∧ loopE gd i0 m1 (xs.drop (i + 1)) δ5 μ5 = some fl :=
      fun h F4 α4 σ4 H4 e4 c4 en4 => ⟨F4, α4, _, _, e2.trans (e3.trans e4), c4, en4, h⟩
    split at h2
    · rename_i δ4 μ4 h4
      exact ⟨F3, α2, δ3, μ2, _, c3, en3, h4, fun F4 α4 σ4 H4 e4 c4 en4 => fin h2 F4 α4 σ4 H4 e4 c4 en4⟩
    · rename_i δ4 μ4 h4
      exact ⟨F3, α2, δ3, μ2, _, c3, en3, h4, fun F4 α4 σ4 H4 e4 c4 en4 => fin h2 F4 α4 σ4 H4 e4 c4 en4⟩
    · rename_i δ4 μ4 h4
      cases h2
      exact ⟨F3, α2, δ3, μ2, _, c3, en3, h4, fun F4 α4 σ4 H4 e4 c4 en4 => k F4 α4 σ4 H4 (e1.trans (e2.trans (e3.trans e4))) c4 en4⟩
    · rename_i r4 μ4 h4
      cases h2
      exact ⟨F3, α2, δ3, μ2, _, c3, en3, h4, fun v F4 α4 H4 e4 c4 r5 => k v F4 α4 H4 (e1.trans (e2.trans (e3.trans e4))) c4 (r5.back fun p hp => e1.dom p (e2.dom p (e3.dom p hp)))⟩
    · cases h2
  · rintro σ2 H2 ⟨F2, α2, δ2, μ2, e2, c2, en2, h2⟩
    rw [List.drop_length] at h2
    unfold loopE at h2
    split at h2
    · cases h2
      exact k F2 α2 σ2 H2 (e1.trans e2) c2 en2
    · cases h2
theorem lcE_imp {mi : MIE} {i0 : Nat} {me : ME} {vs : List Nat} (hiv : i0 ∈ vs) : ∀ σ H Q, tm K cl (mLcE mi i0 mt me vs) σ H Q → tLc (tmie K cl mi) (gName i0) (tmt K cl mt) (tm K cl me) vs σ H Q := fun σ H Q ⟨F, α, δ, μ, z, μ', C, Ee, hm, k⟩ => by
  unfold mLcE at hm
  split at hm
  · cases hm
  rename_i xs gd μ1 h1
  split at hm
  · cases hm
  rename_i ys μ2 h2
  cases hm
  refine ⟨F, α, δ, μ, xs, gd, μ1, C, Ee, h1, fun J F1 H1 e1 c1 W D0 hD => ?_⟩
  obtain ⟨G, Y, w, hG, hY⟩ := W
  have fD : F1 D0 = none := by
    cases q : F1 D0 with
    | none => rfl
    | some u =>
      rw [c1.sub D0 u q] at hD
      cases hD
  have aD : D0 ∉ α := fun ha => by
    obtain ⟨kk, hk, ek⟩ := List.mem_iff_getElem.mp ha
    have hk2 : kk < μ1.length := by rw [← c1.len]; exact hk
    obtain ⟨us, q⟩ := (c1.cell kk D0 μ1[kk] (by rw [List.getElem?_eq_getElem hk, ek]) (List.getElem?_eq_getElem hk2)).some
    rw [hD] at q
    cases q
  have gdOf : ∀ {i : Nat} {acc : List D} {μ3 : Mu}, lcLoopE gd i0 mt me (wipeR δ vs) (xs.drop i) acc μ3 = some (ys, μ') → gd μ3 = true := by
    intro i acc μ3 h
    cases e : xs.drop i with
    | nil =>
      rw [e] at h
      unfold lcLoopE at h
      split at h
      · rename_i z
        exact z
      · cases h
    | cons x r =>
      rw [e] at h
      unfold lcLoopE at h
      split at h
      · rename_i z
        exact z
      · cases h
  refine lc_it w (fun i H2 => ∃ F2 μ3 acc us, Evo F1 α H1 F2 α H2 ∧ Conc K cl F2 α μ3 H2 ∧ F2 D0 = none ∧ H2 D0 = some (.lst us) ∧ Reps K cl F2 us acc ∧ lcLoopE gd i0 mt me (wipeR δ vs) (xs.drop i) acc μ3 = some (ys, μ')) ?_ ?_ ?_ ?_
  · obtain ⟨e2, c2, r2⟩ := c1.newL hD .nil
    exact ⟨F1, μ1, [], [], e2, c2, fD, upd_same, .nil, h2⟩
  · rintro i H2 _ ⟨F2, μ3, acc, us, e2, c2, f2, d2, q2, h3⟩
    exact hG F2 α μ3 H2 e2.ff ⟨[], by simp⟩ c2 (gdOf h3)
  · rintro i x H2 H3 hi ⟨F2, μ3, acc, us, e2, c2, f2, d2, q2, h3⟩ y
    have gt := gdOf h3
    rw [List.drop_eq_getElem_cons hi] at h3
    unfold lcLoopE at h3
    rw [if_pos gt] at h3
    obtain ⟨F3, e3, c3, r3⟩ := hY i xs[i] F2 α μ3 H2 x H3 (List.getElem?_eq_getElem hi) e2.ff ⟨[], by simp⟩ c2 gt y
    have keepD : ∀ {F4 H4 : Hp}, Evo F2 α H2 F4 α H4 → F4 D0 = none ∧ H4 D0 = some (.lst us) := fun {F4 H4} e4 => by
      refine ⟨?_, e4.hh D0 _ d2 aD⟩
      cases q : F4 D0 with
      | none => rfl
      | some u =>
        have := e4.fre D0 u f2 q
        rw [d2] at this
        cases this
    refine ⟨?_, ?_⟩
    · exact wipe_eq (by rw [List.length_set, wipe_length]) fun j hj => by
        rw [List.getElem?_set_ne (fun z => hj (by rw [← z]; exact hiv))]
        exact wipe_out hj
    have en1 := ((env_wipe ((Ee.step e1).step e2) vs).step e3).putE (i := i0) r3
    generalize wipe σ vs = σ0 at en1 ⊢
    generalize hδ : (wipeR δ vs).set i0 (elR xs[i]) = δ1 at h3 en1
    split at h3
    · cases h3
    · rename_i μ4 h5
      refine ⟨F3, α, δ1, μ3, _, μ4, c3, en1, h5, fun F4 H4 e4 c4 => iteF ?_⟩
      obtain ⟨k1, k2⟩ := keepD (e3.trans e4)
      exact ⟨F4, μ4, acc, us, e2.trans (e3.trans e4), c4, k1, k2, q2.mono (e3.trans e4).ff, h3⟩
    · rename_i μ4 h5
      split at h3
      · cases h3
      rename_i r5 μ5 h6
      split at h3
      · cases h3
      rename_i d h7
      split at h3
      · rename_i hl
        refine ⟨F3, α, δ1, μ3, _, μ4, c3, en1, h5, fun F4 H4 e4 c4 => iteT ⟨F4, α, δ1, μ4, r5, μ5, c4, en1.step e4, h6, fun v F5 H5 e5 c5 r5' => ?_⟩⟩
        obtain ⟨F6, e6, c6, r6⟩ := freeze e5 c5 r5'
        rw [froz_dat h7] at r6
        have eAll := e3.trans (e4.trans e6)
        obtain ⟨k1, k2⟩ := keepD eAll
        have q6 := q2.mono eAll.ff
        refine ⟨us, k2, sz_lt (by rw [q6.length]; exact hl), F6, μ5, acc ++ [d], us ++ [v], (e2.trans eAll).out1 (u := .lst us) hD, c6.out1 k1 aD k2, k1, upd_same, q6.append (.cons r6 .nil), h3⟩
      · cases h3
  · rintro H2 ⟨F2, μ3, acc, us, e2, c2, f2, d2, q2, h3⟩
    rw [List.drop_length] at h3
    unfold lcLoopE at h3
    split at h3
    · cases h3
      exact k _ F2 H2 (e1.trans e2) c2 ⟨D0, us, rfl, e1.dom D0 hD, f2, aD, d2, q2⟩
    · cases h3
theorem se_lcE {elt iter : Expr} {ifs : List Expr} {scope : Scope} {own : List (Str × Nat)} {mi : MIE} {i0 : Nat} {me : ME} (hN : X.N.Nodup) (hi : SIE X cl tg iter mi) (hiv : i0 ∈ own.map (·.2))
    (hg : ∀ (s : Shared) (H : Hp) (C : Addr) (cc : List (Str × Addr)) (fp : List Addr), PG (X.blk s H scope (compEnvC scope cc C X.env) fp) tg (gName i0))
    (ht : ∀ (s : Shared) (H : Hp) (C : Addr) (cc : List (Str × Addr)) (fp : List Addr), PTs (X.blk s H scope (compEnvC scope cc C X.env) fp) ifs (tmt X.K cl mt))
    (he : ∀ (s : Shared) (H : Hp) (C : Addr) (cc : List (Str × Addr)) (fp : List Addr), PE (X.blk s H scope (compEnvC scope cc C X.env) fp) elt (tm X.K cl me)) (ok : BlkOk X.N X.env.scope scope own) (hc : X.calm = true := by rfl) (hs : ∀ x, foldedSetIterable iter X.env x = pure x := by intro _; rfl) :
    SE X cl (.ListComp elt [⟨tg, iter, ifs, 0⟩] scope pos) (mLcE mi i0 mt me (own.map (·.2))) := PE.weak (pe_lc hc hN hi ok hg ht he hs) (lcE_imp hiv)
theorem ss_setLcE {i : Nat} {y : Str} {py spos : Pos} {elt iter : Expr} {ifs : List Expr} {scope : Scope} {own : List (Str × Nat)} {mi : MIE} {i0 : Nat} {me : ME} (hN : X.N.Nodup) (hi : SIE X cl tg iter mi) (hiv : i0 ∈ own.map (·.2))
    (hg : ∀ (s : Shared) (H : Hp) (C : Addr) (cc : List (Str × Addr)) (fp : List Addr), PG (X.blk s H scope (compEnvC scope cc C X.env) fp) tg (gName i0))
    (ht : ∀ (s : Shared) (H : Hp) (C : Addr) (cc : List (Str × Addr)) (fp : List Addr), PTs (X.blk s H scope (compEnvC scope cc C X.env) fp) ifs (tmt X.K cl mt))
    (he : ∀ (s : Shared) (H : Hp) (C : Addr) (cc : List (Str × Addr)) (fp : List Addr), PE (X.blk s H scope (compEnvC scope cc C X.env) fp) elt (tm X.K cl me)) (ok : BlkOk X.N X.env.scope scope own)
    (hsw : swapsWith (.ListComp elt [⟨tg, iter, ifs, 0⟩] scope pos) (some (.Name y py)) spos.line X.env = pure true) (hy : X.N[i]? = some y := by rfl) (hyl : X.env.scope.names.lookup y = some .local := by rfl) (hc : X.calm = true := by rfl) (hs : ∀ x, foldedSetIterable iter X.env x = pure x := by intro _; rfl) :
    SS X cl (.Assign [.Name y py] (.ListComp elt [⟨tg, iter, ifs, 0⟩] scope pos) spos) (mSet i (mLcE mi i0 mt me (own.map (·.2)))) :=
  PS.weak (ps_setLc hc hN hy hyl hsw hi ok hg ht he hs) fun E σ H h => asg_imp (lcE_imp hiv) E σ H (set_imp E σ H h)
end
end DL
set_option Elab.async false
set_option linter.all false
set_option maxRecDepth 100000
set_option maxHeartbeats 1000000

namespace DL
open PySem PySem.Spec PyProof.Rows L2
abbrev MN := Sl → Mu → Option (List El × Mu)
@[simp] def toEl : R → Option El
  | .dat d => some (.d d)
  | .fr xs => some (.d (.lst xs))
  | .cel j => some (.c j)
  | _ => none
@[simp] def mNilN : MN := fun _ μ => some ([], μ)
@[simp] def mConsN (m : ME) (ms : MN) : MN := fun δ μ => match m δ μ with
  | none => none
  | some (r, μ1) => match toEl r with
    | none => none
    | some e => match ms δ μ1 with
      | none => none
      | some (es, μ2) => some (e :: es, μ2)
def tmn (K : PySem.W.Frag) (cl : Nat → Addr) (m : MN) : TA := fun σ H Q => ∃ F α δ μ es μ', Conc K cl F α μ H ∧ EnvOk K cl F α σ δ ∧ m δ μ = some (es, μ') ∧
  ∀ vs F' H', Evo F α H F' α H' → Conc K cl F' α μ' H' → ElRs K cl F' α vs es → Q vs H'
abbrev SN (X : Cx) (cl : Nat → Addr) (es : List Expr) (m : MN) : Prop := PA X es (tmn X.K cl m)
@[simp] def mLstN (ms : MN) : ME := fun δ μ => match ms δ μ with
  | none => none
  | some (es, μ1) => if es.length ≤ 100000 then some (.fc (.n es), μ1) else none
section
variable {X : Cx} {cl : Nat → Addr} {e a : Expr} {es : List Expr} {m : ME} {ms : MN} {pos : Pos} {K : PySem.W.Frag}
theorem sn_nil : SN X cl [] mNilN := by
  refine PA.weak pa_nil fun σ H Q ⟨F, α, δ, μ, z, μ', C, Ee, hm, k⟩ => ?_
  cases hm
  exact k [] F H Evo.refl C .nil
theorem el_of {H0 F H : Hp} {α : List Addr} {v : V} {r : R} {e : El} (q : toEl r = some e) (h : RepR K cl H0 F α H v (froz r)) : ElR K cl F α v e := by
  cases r with
  | no => cases q
  | fc c => cases q
  | dat d =>
    cases q
    exact h
  | fr xs =>
    cases q
    exact h
  | cel k =>
    cases q
    exact h
theorem sn_cons (ha : SE X cl a m) (hr : SN X cl es ms) (hs : starEach (a :: es) X.env = (false, eval a X.env) :: starEach es X.env := by rfl) : SN X cl (a :: es) (mConsN m ms) := by
  refine PA.weak (pa_cons ha hr hs) fun σ H Q ⟨F, α, δ, μ, z, μ', C, Ee, hm, k⟩ => ?_
  unfold mConsN at hm
  split at hm
  · cases hm
  rename_i r1 μ1 h1
  split at hm
  · cases hm
  rename_i e1 h2
  split at hm
  · cases hm
  rename_i rs μ2 h3
  cases hm
  refine ⟨F, α, δ, μ, r1, μ1, C, Ee, h1, fun v F1 H1 e1' c1 q1 => ?_⟩
  obtain ⟨F1', e2, c2, q2⟩ := freeze e1' c1 q1
  refine ⟨F1', α, δ, μ1, rs, μ', c2, Ee.step e2, h3, fun vs F2 H2 e3 c3 q3 => k _ F2 H2 (e2.trans e3) c3 (.cons ((el_of h2 q2).mono e3.ff ⟨[], by simp⟩) q3)⟩
theorem se_lstN (h : SN X cl es ms) : SE X cl (.List es pos) (mLstN ms) := by
  refine PE.weak (pe_lst h) fun σ H Q ⟨F, α, δ, μ, z, μ', C, Ee, hm, k⟩ => ?_
  unfold mLstN at hm
  split at hm
  · cases hm
  rename_i rs μ1 h1
  split at hm
  · rename_i h3
    cases hm
    refine ⟨F, α, δ, μ, rs, μ', C, Ee, h1, fun vs F1 H1 e1 c1 q1 => ?_⟩
    refine ⟨sz_of (by rw [q1.length]; exact h3), fun p hp => ?_⟩
    obtain ⟨e2, c2⟩ := c1.garb (o := .lst vs) hp
    refine k _ _ _ (e1.trans e2) c2 ⟨p, rfl, e1.dom p hp, ?_, fun z => ?_, vs, upd_same, q1⟩
    · cases q : F1 p with
      | none => rfl
      | some u =>
        rw [c1.sub p u q] at hp
        cases hp
    · obtain ⟨u, q⟩ := cell_some c1 z
      rw [hp] at q
      cases q
  · cases hm
end

inductive RepRs (K : PySem.W.Frag) (cl : Nat → Addr) (H0 F : Hp) (α : List Addr) (H : Hp) : List V → List R → Prop
  | nil : RepRs K cl H0 F α H [] []
  | cons {v : V} {r : R} {vs : List V} {rs : List R} : RepR K cl H0 F α H v r → RepRs K cl H0 F α H vs rs → (r.isFr = true → ∀ (i : Nat) (b : Addr) (r' : R), vs[i]? = some (.ref b) → rs[i]? = some r' → r'.isFr = true → v ≠ .ref b) → RepRs K cl H0 F α H (v :: vs) (r :: rs)
@[simp] def mNilV : MA := fun _ μ => some ([], μ)
@[simp] def mConsV (m : ME) (ms : MA) : MA := fun δ μ => match m δ μ with
  | none => none
  | some (r, μ1) => match ms δ μ1 with
    | none => none
    | some (rs, μ2) => some (r :: rs, μ2)
def tmv (K : PySem.W.Frag) (cl : Nat → Addr) (m : MA) : TA := fun σ H Q => ∃ F α δ μ rs μ', Conc K cl F α μ H ∧ EnvOk K cl F α σ δ ∧ m δ μ = some (rs, μ') ∧
  ∀ vs F' H', Evo F α H F' α H' → Conc K cl F' α μ' H' → RepRs K cl H F' α H' vs rs → Q vs H'
abbrev SV (X : Cx) (cl : Nat → Addr) (es : List Expr) (m : MA) : Prop := PA X es (tmv X.K cl m)
def optAll : List (Option D) → Option (List D)
  | [] => some []
  | some d :: r => match optAll r with
    | some ds => some (d :: ds)
    | none => none
  | none :: _ => none
def vwC (μ : Mu) : Nat → Nat → Option D
  | 0, _ => none
  | n + 1, k => match μ[k]? with
    | some (.l xs) => some (.lst xs)
    | some (.n es) => match optAll (es.map fun e => match e with
        | .d x => some x
        | .c j => vwC μ n j) with
      | some ds => some (.lst ds)
      | none => none
    | _ => none
def vwE (μ : Mu) (n : Nat) : El → Option D
  | .d x => some x
  | .c j => vwC μ n j
@[simp] def vwR (μ : Mu) : R → Option D
  | .dat d => some d
  | .fr xs => some (.lst xs)
  | .cel k => vwC μ 4 k
  | .fc (.n es) => match optAll (es.map (vwE μ 4)) with
    | some ds => some (.lst ds)
    | none => none
  | _ => none
@[simp] def vwRs (μ : Mu) : List R → Option (List D)
  | [] => some []
  | r :: rs => match vwR μ r with
    | none => none
    | some d => match vwRs μ rs with
      | none => none
      | some ds => some (d :: ds)
@[simp] def mCallW (f : MF) (ms : MA) : ME := fun δ μ => match ms δ μ with
  | none => none
  | some (rs, μ1) => match vwRs μ1 rs with
    | none => none
    | some ds => match f (ds.map R.dat) [] with
      | some (r, []) => if lfR r = true then some (r, μ1) else none
      | _ => none
section
variable {X : Cx} {cl : Nat → Addr} {e a : Expr} {es : List Expr} {m : ME} {ms : MA} {pos p : Pos} {K : PySem.W.Frag}
theorem RepRs.step {H0 F α H F' α' H'} {vs : List V} {rs : List R} (h : RepRs K cl H0 F α H vs rs) (e : Evo F α H F' α' H') : RepRs K cl H0 F' α' H' vs rs := by
  induction h with
  | nil => exact .nil
  | cons r _ hn ih => exact .cons (r.step e) ih hn
theorem RepRs.back {H0 H1 F H : Hp} {α : List Addr} {vs : List V} {rs : List R} (h : RepRs K cl H1 F α H vs rs) (k : ∀ a, H1 a = none → H0 a = none) : RepRs K cl H0 F α H vs rs := by
  induction h with
  | nil => exact .nil
  | cons r _ hn ih => exact .cons (r.back k) ih hn
theorem RepRs.length {H0 F H : Hp} {α : List Addr} {vs : List V} {rs : List R} (h : RepRs K cl H0 F α H vs rs) : vs.length = rs.length := by
  induction h with
  | nil => rfl
  | cons r _ _ ih => simp [ih]
theorem RepRs.fresh {H0 F H : Hp} {α : List Addr} : ∀ {vs : List V} {rs : List R}, RepRs K cl H0 F α H vs rs → ∀ (i : Nat) (b : Addr) (r : R), vs[i]? = some (.ref b) → rs[i]? = some r → r.isFr = true → H0 b = none
  | _, _, .nil, _, _, _, h, _, _ => by simp at h
  | _, _, .cons h _ _, 0, b, r, g1, g2, g3 => by
    simp at g1 g2
    subst g1 g2
    obtain ⟨a, q1, q2, _⟩ := h.frH g3
    cases q1
    exact q2
  | _, _, .cons _ q _, i + 1, b, r, g1, g2, g3 => RepRs.fresh q i b r (by simpa using g1) (by simpa using g2) g3
theorem sv_nil : SV X cl [] mNilV := by
  refine PA.weak pa_nil fun σ H Q ⟨F, α, δ, μ, z, μ', C, Ee, hm, k⟩ => ?_
  cases hm
  exact k [] F H Evo.refl C .nil
theorem sv_cons (ha : SE X cl a m) (hr : SV X cl es ms) (hs : starEach (a :: es) X.env = (false, eval a X.env) :: starEach es X.env := by rfl) : SV X cl (a :: es) (mConsV m ms) := by
  refine PA.weak (pa_cons ha hr hs) fun σ H Q ⟨F, α, δ, μ, z, μ', C, Ee, hm, k⟩ => ?_
  unfold mConsV at hm
  split at hm
  · cases hm
  rename_i r1 μ1 h1
  split at hm
  · cases hm
  rename_i rs μ2 h3
  cases hm
  exact ⟨F, α, δ, μ, r1, μ1, C, Ee, h1, fun v F1 H1 e1 c1 q1 => ⟨F1, α, δ, μ1, rs, μ', c1, Ee.step e1, h3, fun vs F2 H2 e2 c2 q2 => k _ F2 H2 (e1.trans e2) c2 (.cons (q1.step e2) (q2.back e1.dom) fun hf i b r' g1 g2 g3 z => by
    obtain ⟨a', z1, _, u, z2⟩ := q1.frH hf
    rw [z1] at z
    cases z
    have := q2.fresh i _ r' g1 g2 g3
    rw [z2] at this
    cases this)⟩⟩
/-- the list cells' places -/
def lstsAt (α : List Addr) (μ : Mu) : List Addr := (List.range α.length).filterMap fun k => if isLst μ[k]? = true then α[k]? else none
theorem lstsAt_mem {α : List Addr} {μ : Mu} {k : Nat} {b : Addr} (h : α[k]? = some b) (q : isLst μ[k]? = true) : b ∈ lstsAt α μ :=
  List.mem_filterMap.mpr ⟨k, List.mem_range.mpr (List.getElem?_eq_some_iff.mp h).1, by rw [if_pos q]; exact h⟩
theorem lstsAt_in {F H : Hp} {α : List Addr} {μ : Mu} (C : Conc K cl F α μ H) {b : Addr} (h : b ∈ lstsAt α μ) : b ∈ α ∧ ∃ us, H b = some (.lst us) := by
  obtain ⟨k, _, hk⟩ := List.mem_filterMap.mp h
  split at hk
  · rename_i q
    exact ⟨List.mem_of_getElem? hk, isLst_ok C hk q⟩
  · cases hk
theorem fresh_places {H0 F H : Hp} {α : List Addr} {μ : Mu} : ∀ {vs : List V} {rs : List R} {ds : List D}, RepRs K cl H0 F α H vs rs → vwRs μ rs = some ds → ∃ W : List Addr, (∀ b ∈ W, F b = none ∧ b ∉ α ∧ ∃ us, H b = some (.lst us)) ∧ ∀ (i : Nat) b r, vs[i]? = some (.ref b) → rs[i]? = some r → r.isFr = true → b ∈ W
  | _, _, _, .nil, _ => ⟨[], by simp, by simp⟩
  | _, _, _, .cons (v := v) (r := r) (vs := vs) (rs := rs) h q _, hv => by
    unfold vwRs at hv
    split at hv
    · cases hv
    rename_i d hd
    split at hv
    · cases hv
    rename_i ds hds
    obtain ⟨W, w1, w2⟩ := fresh_places q hds
    have tail : ∀ {W2 : List Addr}, (∀ b, b ∈ W → b ∈ W2) → (∀ b, v = .ref b → r.isFr = true → b ∈ W2) → ∀ (i : Nat) b r', (v :: vs)[i]? = some (.ref b) → (r :: rs)[i]? = some r' → r'.isFr = true → b ∈ W2 := fun h1 h2 i b r' g1 g2 g3 => by
      cases i with
      | zero =>
        simp at g1 g2
        subst g2
        exact h2 b g1 g3
      | succ i => exact h1 b (w2 i b r' (by simpa using g1) (by simpa using g2) g3)
    cases r with
    | no => exact h.elim
    | dat x => exact ⟨W, w1, tail (fun _ z => z) fun b _ z => by cases z⟩
    | cel k => exact ⟨W, w1, tail (fun _ z => z) fun b _ z => by cases z⟩
    | fr xs =>
      obtain ⟨a, us, g1, g2, g3, g4, g5, g6⟩ := h
      refine ⟨a :: W, fun b hb => ?_, tail (fun _ z => List.mem_cons_of_mem _ z) fun b z _ => ?_⟩
      · rcases List.mem_cons.mp hb with rfl | hb
        · exact ⟨g3, g4, us, g5⟩
        · exact w1 b hb
      · rw [g1] at z
        cases z
        exact List.mem_cons_self
    | fc c =>
      obtain ⟨a, g1, g2, g3, g4, g5⟩ := h
      refine ⟨a :: W, fun b hb => ?_, tail (fun _ z => List.mem_cons_of_mem _ z) fun b z _ => ?_⟩
      · rcases List.mem_cons.mp hb with rfl | hb
        · cases c with
          | n es =>
            obtain ⟨us, g6, _⟩ := g5
            exact ⟨g3, g4, us, g6⟩
          | l xs => cases hd
          | dk _ => cases hd
          | dt _ => cases hd
        · exact w1 b hb
      · rw [g1] at z
        cases z
        exact List.mem_cons_self
theorem optAll_ok {Fv : Hp} {F : Hp} {α : List Addr} {g : El → Option D} (hg : ∀ e v d, ElR K cl F α v e → g e = some d → Rep K cl Fv v d) : ∀ {es : List El} {us : List V} {ds : List D}, ElRs K cl F α us es → optAll (es.map g) = some ds → Reps K cl Fv us ds
  | _, _, _, .nil, h => by
    cases h
    exact .nil
  | _, _, _, .cons (e := e) r q, h => by
    rw [List.map_cons] at h
    cases hge : g e with
    | none =>
      rw [hge] at h
      cases h
    | some d =>
      rw [hge] at h
      unfold optAll at h
      split at h
      · rename_i ds' e2
        cases h
        exact .cons (hg e _ d r hge) (optAll_ok hg q e2)
      · cases h
theorem vwC_ok {F H Fv : Hp} {α : List Addr} {μ : Mu} (C : Conc K cl F α μ H) (sm : Same F Fv) (hv : ∀ (k : Nat) (b : Addr), α[k]? = some b → isLst μ[k]? = true → Fv b = H b) : ∀ (n k : Nat) (b : Addr) (d : D), α[k]? = some b → vwC μ n k = some d → Rep K cl Fv (.ref b) d
  | 0, _, _, _, _, h => by cases h
  | n + 1, k, b, d, hb, h => by
    unfold vwC at h
    split at h
    · rename_i xs e
      cases h
      obtain ⟨us, h1, h2⟩ := C.cell k b _ hb e
      refine .lst (vs := us) ?_ (h2.mono sm)
      rw [hv k b hb (by rw [e]; rfl)]
      exact h1
    · rename_i es e
      split at h
      · rename_i ds e2
        cases h
        obtain ⟨us, h1, h2⟩ := C.cell k b _ hb e
        refine .lst (vs := us) ?_ (optAll_ok (F := F) (α := α) (fun el v d he hd => ?_) h2 e2)
        · rw [hv k b hb (by rw [e]; rfl)]
          exact h1
        · cases el with
          | d x =>
            cases hd
            exact Rep.mono sm he
          | c j =>
            obtain ⟨a', g1, rfl⟩ := he
            exact vwC_ok C sm hv n j a' d g1 hd
      · cases h
    · cases h
theorem callW_imp {n : Nat} {mf : MF} (ar : ∀ rs μ z, mf rs μ = some z → rs.length = n) : ∀ σ H Q, tm K cl (mCallW mf ms) σ H Q → tCall (spM K cl n mf) [] E0 (tmv K cl ms) σ H Q := fun σ H Q ⟨F, α, δ, μ, z, μ', C, Ee, hm, k⟩ => by
  unfold mCallW at hm
  split at hm
  · cases hm
  rename_i rs μ1 h1
  split at hm
  · cases hm
  rename_i ds h2
  split at hm
  rotate_left
  · cases hm
  rename_i r1 h3
  split at hm
  rotate_left
  · cases hm
  rename_i hp
  cases hm
  refine ⟨F, α, δ, μ, rs, μ', C, Ee, h1, fun vs F1 H1 e1 c1 q1 => ?_⟩
  obtain ⟨W', w1, w2⟩ := fresh_places q1 h2
  let W : List Addr := lstsAt α μ' ++ W'
  have hWl : ∀ b ∈ W, ∃ us, H1 b = some (.lst us) := fun b hb => by
    rcases List.mem_append.mp hb with q | q
    · exact (lstsAt_in c1 q).2
    · exact (w1 b q).2.2
  have hWF : ∀ b ∈ W, F1 b = none := fun b hb => by
    rcases List.mem_append.mp hb with q | q
    · exact c1.out b (lstsAt_in c1 q).1
    · exact (w1 b q).1
  have sm : Same F1 (viewF F1 H1 W) := fun b o h => by
    rw [viewF_out fun z => ?_]
    · exact h
    · rw [hWF b z] at h
      cases h
  have sub : Same (viewF F1 H1 W) H1 := fun b o h => by
    by_cases q : b ∈ W
    · rw [viewF_in q] at h
      exact h
    · rw [viewF_out q] at h
      exact c1.sub b o h
  have hvw : ∀ (k : Nat) (b : Addr), α[k]? = some b → isLst μ'[k]? = true → viewF F1 H1 W b = H1 b := fun k b hb q => viewF_in (List.mem_append_left _ (lstsAt_mem hb q))
  have elv : ∀ (el : El) (v : V) (d : D), ElR K cl F1 α v el → vwE μ' 4 el = some d → Rep K cl (viewF F1 H1 W) v d := fun el v d he hd => by
    cases el with
    | d x =>
      cases hd
      exact Rep.mono sm he
    | c j =>
      obtain ⟨a', g1, rfl⟩ := he
      exact vwC_ok c1 sm hvw 4 j a' d g1 hd
  have args : ∀ (vs : List V) (rs : List R) (ds : List D), RepRs K cl H F1 α H1 vs rs → vwRs μ' rs = some ds → (∀ (i : Nat) b r, vs[i]? = some (.ref b) → rs[i]? = some r → r.isFr = true → b ∈ W') → ArgRs K cl (viewF F1 H1 W) [] vs (ds.map R.dat) := by
    intro vs rs
    induction rs generalizing vs with
    | nil =>
      intro ds hr hv _
      cases hr
      cases hv
      exact .nil
    | cons r rs ih =>
      intro ds hr hv hw
      cases hr with
      | cons h q hnn =>
        rename_i v vs
        unfold vwRs at hv
        split at hv
        · cases hv
        rename_i d hd
        split at hv
        · cases hv
        rename_i ds' hds
        cases hv
        refine .cons ?_ (ih vs ds' q hds fun i b r g1 g2 g3 => hw (i + 1) b r (by simpa using g1) (by simpa using g2) g3)
        show Rep K cl _ v d
        cases r with
        | no => exact h.elim
        | dat x =>
          cases hd
          exact Rep.mono sm h
        | cel kk =>
          obtain ⟨b, g1, rfl⟩ := h
          exact vwC_ok c1 sm hvw 4 kk b d g1 hd
        | fr xs =>
          cases hd
          obtain ⟨b, us, rfl, g2, g3, g4, g5, g6⟩ := h
          refine .lst (vs := us) ?_ (g6.mono sm)
          rw [viewF_in (List.mem_append_right _ (hw 0 b _ rfl rfl rfl))]
          exact g5
        | fc c =>
          obtain ⟨b, rfl, g2, g3, g4, g5⟩ := h
          cases c with
          | l xs => cases hd
          | dk _ => cases hd
          | dt _ => cases hd
          | n es =>
            have hd' : (match optAll (es.map (vwE μ' 4)) with
              | some ds => some (D.lst ds)
              | none => none) = some d := hd
            split at hd'
            · rename_i ds2 e2
              cases hd'
              obtain ⟨us, g6, g7⟩ := g5
              refine .lst (vs := us) ?_ (optAll_ok elv g7 e2)
              rw [viewF_in (List.mem_append_right _ (hw 0 b _ rfl rfl rfl))]
              exact g6
            · cases hd'
  have va := args vs rs ds q1 h2 w2
  refine ⟨viewF F1 H1 W, [], [], ds.map R.dat, z, [], by rw [List.append_nil, va.length, ar _ _ _ h3], ⟨sub, rfl, List.nodup_nil, fun _ _ _ h => by simp at h, fun _ h => by simp at h⟩, by rw [List.append_nil]; exact va, h3, fun v F' H' e c q => ?_⟩
  have b4 : ∀ b ∈ W, ∃ us, F' b = some (.lst us) := fun b hb => by
    obtain ⟨us, h⟩ := hWl b hb
    exact ⟨us, e.ff b _ (by rw [viewF_in hb]; exact h)⟩
  have b1 : Same F1 (cutF F' W) := fun b o h => by
    rw [cutF_out fun z => by rw [hWF b z] at h; cases h]
    exact e.ff b o (sm b o h)
  have b2 : ∀ b o, F1 b = none → cutF F' W b = some o → H1 b = none := fun b o h q => by
    obtain ⟨q1, q2⟩ := cutF_some q
    exact e.fre b o (by rw [viewF_out q1]; exact h) q2
  have b3 : ∀ b, b ∈ α → cutF F' W b = none := fun b hb => by
    by_cases z : b ∈ W
    · exact cutF_in z
    · rw [cutF_out z]
      cases q : F' b with
      | none => rfl
      | some o =>
        obtain ⟨us, h⟩ := cell_some c1 hb
        have := e.fre b o (by rw [viewF_out z]; exact c1.out b hb) q
        rw [h] at this
        cases this
  have b5 : Same (cutF F' W) H' := fun b o h => c.sub b o (cutF_some h).2
  refine k v (cutF F' W) H' (e1.trans ⟨b1, ⟨[], by simp⟩, fun b o hb _ => e.hh b o hb (by simp), e.dom, b2, fun b hb z => absurd hb z⟩) ⟨b5, c1.len, c1.nd, fun j b xs q1 q2 => ?_, b3⟩ ?_
  · have g := c1.cell j b xs q1 q2
    obtain ⟨u, g1⟩ := g.some
    rw [e.hh b _ g1 (by simp), ← g1]
    exact g.monoF b1
  · have nw : ∀ b, H1 b = none → b ∉ α := fun b hb z => by
      obtain ⟨u, g7⟩ := cell_some c1 z
      rw [hb] at g7
      cases g7
    cases z with
    | dat d => exact rep_cut b4 q hp
    | fr xs =>
      obtain ⟨a, us, g1, g2, g3, g4, g5, g6⟩ := q
      refine ⟨a, us, g1, e1.dom a g2, ?_, nw a g2, g5, reps_cut b4 g6 hp⟩
      unfold cutF
      split
      · rfl
      · exact g3
    | no => cases hp
    | fc c => cases hp
    | cel j => cases hp
theorem se_callW {k j n : Nat} {x : Str} {mf : MF} (S : FS X.prog X.w X.K X.mg X.base cl k x n mf) (hr : Room j X.A) (hk : k ≤ j) (ha : SV X cl (e :: es) ms) (hg : Gl X x := by rfl) (hdb : (x == ("__debug__" : Str)) = false := by decide) (he : starEach (e :: es) X.env = (false, eval e X.env) :: starEach es X.env := by rfl) (hpl : (backTo pos (starEach es X.env)).any (·.1) = false := by rfl) :
    SE X cl (.Call (.Name x p) (e :: es) [] pos) (mCallW mf ms) := by
  obtain ⟨f, fd, ps, F, hm, hkp, hb, _⟩ := S.ok
  exact PE.weak (pe_call F (hr.mono hk) hg hm hkp hb .nil pass0 ha hdb he hpl) (callW_imp S.ar)

def nestOf : List R → Nat → Option (List El × List Cel)
  | [], _ => some ([], [])
  | .dat d :: rs, n => match nestOf rs n with
    | some (es, cs) => some (.d d :: es, cs)
    | none => none
  | .cel j :: rs, n => match nestOf rs n with
    | some (es, cs) => some (.c j :: es, cs)
    | none => none
  | .fr xs :: rs, n => match nestOf rs (n + 1) with
    | some (es, cs) => some (.c n :: es, .l xs :: cs)
    | none => none
  | .fc c :: rs, n => match nestOf rs (n + 1) with
    | some (es, cs) => some (.c n :: es, c :: cs)
    | none => none
  | .no :: _, _ => none
@[simp] def mSetN (i : Nat) (ms : MA) : MS := fun δ μ => match ms δ μ with
  | none => none
  | some (rs, μ1) => match nestOf rs μ1.length with
    | none => none
    | some (es, cs) => if es.length ≤ 100000 then some (.nx (δ.set i (.cel (μ1 ++ cs).length)) (μ1 ++ cs ++ [Cel.n es])) else none
theorem Evo.same {F0 H0 F H : Hp} {α0 α : List Addr} (e : Evo F0 α0 H0 F α H) : Evo F α H0 F α H := ⟨Same.refl F, ⟨[], by simp⟩, fun b o hb hb' => by
    by_cases z : b ∈ α0
    · obtain ⟨x, ex⟩ := e.ext
      exact absurd (by rw [ex]; exact List.mem_append_left _ z) hb'
    · exact e.hh b o hb z, e.dom, fun b o hb hq => (by rw [hb] at hq; cases hq), fun b hb hq => absurd hb hq⟩
theorem Evo.grow {F0 H0 F H : Hp} {α0 α : List Addr} {a : Addr} (e : Evo F0 α0 H0 F α H) (h : H0 a = none) : Evo F0 α0 H0 F (α ++ [a]) H := by
  obtain ⟨x, ex⟩ := e.ext
  refine ⟨e.ff, ⟨x ++ [a], by rw [ex, List.append_assoc]⟩, e.hh, e.dom, e.fre, fun b hb hq => ?_⟩
  rcases List.mem_append.mp hb with z | z
  · exact e.fra b z hq
  · rw [List.mem_singleton.mp z]
    exact h
theorem cells_up {F0 H0 F H : Hp} {α0 : List Addr} : ∀ {rs : List R} {vs : List V} {α : List Addr} {μ : Mu} {es : List El} {cs : List Cel}, Evo F0 α0 H0 F α H → Conc K cl F α μ H → RepRs K cl H0 F α H vs rs → nestOf rs μ.length = some (es, cs) → ∃ α', (∃ x, α' = α ++ x) ∧ Evo F0 α0 H0 F α' H ∧ Conc K cl F α' (μ ++ cs) H ∧ ElRs K cl F α' vs es
  | [], _, α, μ, _, _, e, C, h, q => by
    cases h
    cases q
    exact ⟨α, ⟨[], by simp⟩, e, by simpa using C, .nil⟩
  | r :: rs, _, α, μ, es, cs, e, C, h, q => by
    cases h with
    | cons h1 h2 hn =>
      rename_i v vs
      have fresh : ∀ (c : Cel) (es2 : List El) (cs2 : List Cel), r.isFr = true → RepR K cl H0 F α H v (.fc c) → nestOf rs (μ.length + 1) = some (es2, cs2) → es = .c μ.length :: es2 → cs = c :: cs2 → ∃ α', (∃ x, α' = α ++ x) ∧ Evo F0 α0 H0 F α' H ∧ Conc K cl F α' (μ ++ cs) H ∧ ElRs K cl F α' (v :: vs) es := by
        intro c es2 cs2 hf hc q2 rfl' rfl''
        subst rfl' rfl''
        obtain ⟨a, ha, ha0, _⟩ := id hc
        obtain ⟨a', ev, e2, c2, l2⟩ := mkCell e.same C hc
        rw [ha] at ev
        cases ev
        have tl : RepRs K cl H0 F (α ++ [a]) H vs rs := by
          have : ∀ {vs : List V} {rs : List R}, RepRs K cl H0 F α H vs rs → (∀ (i : Nat) (b : Addr) (r' : R), vs[i]? = some (.ref b) → rs[i]? = some r' → r'.isFr = true → v ≠ .ref b) → RepRs K cl H0 F (α ++ [a]) H vs rs := by
            intro vs rs h
            induction h with
            | nil => exact fun _ => .nil
            | cons g1 g2 g3 ih =>
              intro hh
              refine .cons (g1.other (P := fun b => b = a) (Same.refl F) ⟨[a], rfl⟩ (fun b hb hq => ?_) (fun b o hb hq => (by rw [hb] at hq; cases hq)) fun b hr hw hp => ?_) (ih fun i b r' z1 z2 z3 => hh (i + 1) b r' (by simpa using z1) (by simpa using z2) z3) g3
              · rcases List.mem_append.mp hb with z | z
                · exact absurd z hq
                · exact List.mem_singleton.mp z
              · exact hh 0 b _ (by rw [hw]; rfl) rfl hr (by rw [ha, hp])
          exact this h2 (hn hf)
        obtain ⟨α3, ⟨x3, ex3⟩, e3, c3, q3⟩ := cells_up (e.grow ha0) c2 tl (by rw [List.length_append, List.length_singleton]; exact q2)
        refine ⟨α3, ⟨a :: x3, by rw [ex3]; simp⟩, e3, by rw [List.append_assoc] at c3; exact c3, .cons (e := .c μ.length) ⟨a, ?_, ha⟩ q3⟩
        rw [ex3, List.getElem?_append_left (List.getElem?_eq_some_iff.mp l2).1]
        exact l2
      cases r with
      | no => exact h1.elim
      | dat d =>
        unfold nestOf at q
        split at q
        · rename_i es2 cs2 q2
          cases q
          obtain ⟨α3, ex, e3, c3, q3⟩ := cells_up e C h2 q2
          exact ⟨α3, ex, e3, c3, .cons (e := .d d) h1 q3⟩
        · cases q
      | cel j =>
        unfold nestOf at q
        split at q
        · rename_i es2 cs2 q2
          cases q
          obtain ⟨α3, ex, e3, c3, q3⟩ := cells_up e C h2 q2
          refine ⟨α3, ex, e3, c3, .cons (e := .c j) ?_ q3⟩
          obtain ⟨a, g1, g2⟩ := h1
          obtain ⟨x, rfl⟩ := ex
          exact ⟨a, by rw [List.getElem?_append_left (List.getElem?_eq_some_iff.mp g1).1]; exact g1, g2⟩
        · cases q
      | fr xs =>
        unfold nestOf at q
        split at q
        · rename_i es2 cs2 q2
          cases q
          exact fresh (.l xs) es2 cs2 rfl h1.frc q2 rfl rfl
        · cases q
      | fc c =>
        unfold nestOf at q
        split at q
        · rename_i es2 cs2 q2
          cases q
          exact fresh c es2 cs2 rfl h1 q2 rfl rfl
        · cases q
theorem ss_setN {i : Nat} {x : Str} {pos' lpos : Pos} (hN : X.N.Nodup) (he : SV X cl es ms) (hi : X.N[i]? = some x := by rfl) (hx : Loc X.env.scope x := by first | exact .inl rfl | exact .inr rfl) (hs : swapsWith (.List es lpos) (some (.Name x pos')) pos.line X.env = pure false := by rfl) (hf : X.fn x = true ∨ X.env.scope.names.lookup x = some .local := by first | exact .inl rfl | exact .inr rfl) :
    SS X cl (.Assign [.Name x pos'] (.List es lpos) pos) (mSetN i ms) := by
  refine PS.weak (ps_set hN hi hx (pe_lst he) hs hf) fun E σ H ⟨F, α, δ, μ, fl, C, Ee, hm, k⟩ => ?_
  unfold mSetN at hm
  split at hm
  · cases hm
  rename_i rs μ1 h1
  split at hm
  · cases hm
  rename_i els cs h2
  split at hm
  · rename_i h3
    cases hm
    refine ⟨F, α, δ, μ, rs, μ1, C, Ee, h1, fun vs F1 H1 e1 c1 q1 => ?_⟩
    obtain ⟨α2, ex2, e2, c2, q2⟩ := cells_up e1 c1 q1 h2
    refine ⟨sz_of (by rw [q2.length]; exact h3), fun p hp => ?_⟩
    obtain ⟨e3, c3⟩ := c2.garb (o := .lst vs) hp
    have rp : RepR X.K cl H F1 α2 (upd H1 p (.lst vs)) (.ref p) (.fc (.n els)) := by
      refine ⟨p, rfl, e1.dom p hp, ?_, fun z => ?_, vs, upd_same, q2⟩
      · cases q : F1 p with
        | none => rfl
        | some u =>
          rw [c1.sub p u q] at hp
          cases hp
      · obtain ⟨u, q⟩ := cell_some c2 z
        rw [hp] at q
        cases q
    have e23 := e2.trans e3
    obtain ⟨a', ev, e4, c4, l4⟩ := mkCell e23.same c3 rp
    cases ev
    refine k F1 _ _ _ (e23.grow (e1.dom p hp)) c4 ?_
    exact (((Ee.step e23).cellUp).putC i l4)
  · cases hm
end
end DL
set_option Elab.async false
set_option linter.all false
set_option maxRecDepth 100000
set_option maxHeartbeats 1000000

namespace DL
open PySem PySem.Spec PyProof.Rows L2
section
variable {X : Cx} {cl : Nat → Addr} {pos : Pos} {x : Str} {K : PySem.W.Frag}
theorem se_conI {z : Int} (h : ∃ t, X.mg x = some (.int z t)) (hg : Gl X x := by rfl) (hdb : (x == ("__debug__" : Str)) = false := by decide) : SE X cl (.Name x pos) (mC (.int z)) := by
  obtain ⟨t, h⟩ := h
  refine PE.weak (pe_glob hg h (v := .int z) ⟨t, rfl⟩ hdb) fun σ H Q ⟨F, α, δ, μ, r, μ', C, Ee, hm, k⟩ => ?_
  cases hm
  exact k _ F H Evo.refl C (.int z)
theorem se_conT {ds : List D} (h : ∃ a : Addr, X.mg x = some (.ref a) ∧ ∀ F, Rep X.K cl F (.ref a) (.tup ds)) (hg : Gl X x := by rfl) (hdb : (x == ("__debug__" : Str)) = false := by decide) : SE X cl (.Name x pos) (mC (.tup ds)) := by
  obtain ⟨a, h, hr⟩ := h
  refine PE.weak (pe_glob hg h (v := .ref a) rfl hdb) fun σ H Q ⟨F, α, δ, μ, r, μ', C, Ee, hm, k⟩ => ?_
  cases hm
  exact k _ F H Evo.refl C (hr F)
theorem reps_strs {F : Hp} : ∀ zs : List Str, Reps K cl F (zs.map V.str) (zs.map D.str)
  | [] => .nil
  | z :: zs => .cons (.str z) (reps_strs zs)
theorem conT_mk {mg : Str → Option Value} {a : Addr} {od : Option Addr} {its : List Value} {n : Nat} {sl : Array (Option Value)} (zs : List Str) (hm : mg x = some (.ref a)) (hl : K.lookup a = some ⟨.type "tuple", od, .seq its.toArray n, sl⟩) (hv : Vals (zs.map V.str) its) (hs : its.length ≤ 1000) : ∃ a : Addr, mg x = some (.ref a) ∧ ∀ F, Rep K cl F (.ref a) (.tup (zs.map D.str)) :=
  ⟨a, hm, fun F => .tup (vs := zs.map V.str) (.inr ⟨_, _, n, hl, rfl, rfl, by rw [List.size_toArray, sizeLine_eq]; omega, by simpa using hv⟩) (reps_strs zs)⟩
end
end DL
set_option Elab.async false
set_option linter.all false
set_option maxRecDepth 100000
set_option maxHeartbeats 4000000
namespace NS
open PySem PySem.Spec PyProof.Rows L2 DL
def topS (i : Nat) : Stmt := PySem.Challenge.pw_nearsame_k58_what_is_kept_by_each_rule.main.body.getD i (.Pass ⟨0, 0, 0, 0⟩)
abbrev s_law_cells : Stmt := topS 17
@[reducible] def m_law_cells_0 : MS := (mSetC 2 (mOr (mCb fList (mCons (mSl (mVar 0) mNo (mSo (mVar 1))) mNil)) (mLst (mCons (mC (.int 0)) mNil))))
@[reducible] def m_law_cells_1 : MS := (mSet 5 (mOp fMod (mCb fInt (mCons (mVar 3) mNil)) (mVar 1)))
@[reducible] def m_law_cells_2 : MS := (mPut (mVar 2) (mVar 5) (mOp fAdd (mOp fIx (mVar 2) (mVar 5)) (mOp fMul (mVar 4) (mOp fAdd (mVar 3) (mC (.int 2))))))
@[reducible] def m_law_cells_b3 : MS := (mSeq m_law_cells_1
  m_law_cells_2)
@[reducible] def m_law_cells_4 : MS := (mFor (mItE (mCons (mSl (mVar 0) (mSo (mVar 1)) (mSo (mC (.int 63)))) mNil)) (tgPair 3 4) m_law_cells_b3)
@[reducible] def m_law_cells_5 : MS := (mRet (mVar 2))
theorem sc_law_cells : FnScope ["_law_script", "_law_most_so", "_law_slots_so", "_law_k", "_law_cell", "_law_at_so"] ["_law_script", "_law_most_so"] (defScope s_law_cells) := ⟨rfl, rfl, rfl, by decide +kernel, rfl, by decide +kernel, by decide +kernel⟩
def m_law_cells : MF := mDef 2 6
  (mSeq m_law_cells_0
  (mSeq m_law_cells_4
  m_law_cells_5))
abbrev s_Lean_init : Stmt := inClass (topS 11) 1
theorem sc_Lean_init : FnScope ["self", "amount", "top", "bottom"] ["self", "amount", "top", "bottom"] (defScope s_Lean_init) := ⟨rfl, rfl, rfl, by decide +kernel, rfl, by decide +kernel, by decide +kernel⟩
def m_Lean_init : MIn := mInit 4 4 (mbSeq (mbIf (mtNot (mB (mChain fLeI fLtI (mC (.int 0)) (mVar 2) (mVar 3))))) (mbTup [0, 2, 1] (mTup (mCons (mVar 1) (mCons (mVar 2) (mCons (mVar 3) mNil))))))
abbrev s_Lean_part : Stmt := inClass (topS 11) 3
@[reducible] def m_Lean_part_0 : MS := (mRet (mMake 0 m_Lean_init (mCons (mC (.int 0)) (mCons (mVar 0) (mCons (mVar 1) mNil)))))
theorem sc_Lean_part : FnScope ["top", "bottom"] ["top", "bottom"] (defScope s_Lean_part) := ⟨rfl, rfl, rfl, by decide +kernel, rfl, by decide +kernel, by decide +kernel⟩
def m_Lean_part : MF := mDef 2 2
  m_Lean_part_0
abbrev s_tupled : Stmt := topS 4
@[reducible] def m_tupled_e0 (r : MF) : ME := (mCall (callX r) (mCons (mVar 1) mNil))
@[reducible] def m_tupled_1 (r : MF) : MS := (mRet (mCb fTuple (mCons (mLc (mIt (mVar 0)) (tgName 1) mYes (m_tupled_e0 r) [1]) mNil)))
@[reducible] def m_tupled_2 (r : MF) : MS := (mIfS (mB (mIsi2 "list" "tuple" (mVar 0))) (m_tupled_1 r) mNx)
@[reducible] def m_tupled_3 (r : MF) : MS := (mRet (mVar 0))
theorem sc_tupled : FnScope ["thing", "part"] ["thing"] (defScope s_tupled) := ⟨rfl, rfl, rfl, by decide +kernel, rfl, by decide +kernel, by decide +kernel⟩
def m_tupled : Nat → MF
  | 0 => fun _ _ => none
  | j + 1 => mDef 1 2 (mSeq (m_tupled_2 (m_tupled j))
      (m_tupled_3 (m_tupled j)))
abbrev s_Lean_leans : Stmt := inClass (topS 11) 4
@[reducible] def m_Lean_leans_0 : MS := (mRet (mOp fLeI (mOp fMul (mCb fAbs (mCons (mOp fSub (mVar 1) (mVar 2)) mNil)) (mAttr 0 1 (mVar 0))) (mOp fAdd (mOp fMul (mAttr 0 0 (mVar 0)) (mAttr 0 1 (mVar 0))) (mOp fMul (mCb fAbs (mCons (mVar 2) mNil)) (mAttr 0 2 (mVar 0))))))
theorem sc_Lean_leans : FnScope ["self", "one", "other"] ["self", "one", "other"] (defScope s_Lean_leans) := ⟨rfl, rfl, rfl, by decide +kernel, rfl, by decide +kernel, by decide +kernel⟩
def m_Lean_leans : MF := mDef 3 3
  m_Lean_leans_0
abbrev s_Lean_counts : Stmt := inClass (topS 11) 11
@[reducible] def m_Lean_counts_0 : MS := (mPar false false 4 5 (mMeth 0 (callX m_Lean_leans) (mVar 0) (mCons (mVar 3) (mCons (mVar 2) mNil))) (mMeth 0 (callX m_Lean_leans) (mVar 0) (mCons (mVar 2) (mCons (mVar 3) mNil))))
@[reducible] def m_Lean_counts_1 : MS := (mRet (mVar 4))
@[reducible] def m_Lean_counts_2 : MS := (mIfS (mB (mOp (fEq false) (mVar 1) (mC (.str "kept")))) m_Lean_counts_1 mNx)
@[reducible] def m_Lean_counts_3 : MS := (mRet (mVar 5))
@[reducible] def m_Lean_counts_4 : MS := (mIfS (mB (mOp (fEq false) (mVar 1) (mC (.str "new")))) m_Lean_counts_3 mNx)
@[reducible] def m_Lean_counts_5 : MS := (mRet (mIf (mB (mOp (fEq false) (mVar 1) (mC (.str "both")))) (mAnd (mVar 4) (mVar 5)) (mOr (mVar 4) (mVar 5))))
theorem sc_Lean_counts : FnScope ["self", "rule", "kept", "new", "there", "back"] ["self", "rule", "kept", "new"] (defScope s_Lean_counts) := ⟨rfl, rfl, rfl, by decide +kernel, rfl, by decide +kernel, by decide +kernel⟩
def m_Lean_counts : MF := mDef 4 6
  (mSeq m_Lean_counts_0
  (mSeq m_Lean_counts_2
  (mSeq m_Lean_counts_4
  m_Lean_counts_5)))
abbrev s_kept_by : Stmt := topS 13
@[reducible] def m_kept_by_0 : MS := (mSetC 3 (mLst mNil))
@[reducible] def m_kept_by_e1 : ME := (mMeth 0 (callX m_Lean_counts) (mVar 1) (mCons (mVar 2) (mCons (mVar 5) (mCons (mVar 4) mNil))))
@[reducible] def m_kept_by_2 : MS := (mDrop (mBm fAppend (mVar 3) (mCons (mVar 4) mNil)))
@[reducible] def m_kept_by_3 : MS := (mIfS (mtNot (mB (mCb fAny (mCons (mLc (mIt (mVar 3)) (tgName 5) mYes m_kept_by_e1 [5]) mNil)))) m_kept_by_2 mNx)
@[reducible] def m_kept_by_4 : MS := (mFor (mIt (mCall (callX (m_tupled 4)) (mCons (mVar 0) mNil))) (tgName 4) m_kept_by_3)
@[reducible] def m_kept_by_5 : MS := (mRet (mVar 3))
theorem sc_kept_by : FnScope ["values", "lean", "rule", "found", "value", "own"] ["values", "lean", "rule"] (defScope s_kept_by) := ⟨rfl, rfl, rfl, by decide +kernel, rfl, by decide +kernel, by decide +kernel⟩
def m_kept_by : MF := mDef 3 6
  (mSeq m_kept_by_0
  (mSeq m_kept_by_4
  m_kept_by_5))
abbrev s_law_same : Stmt := topS 19
@[reducible] def m_law_same_0 (r : MF) : MS := (mRet (mC (.bl false)))
@[reducible] def m_law_same_1 (r : MF) : MS := (mIfS (mtOr (mB (mOp (fEq true) (mIsi "list" (mVar 0)) (mIsi "list" (mVar 1)))) (mB (mOp (fEq true) (mIsi "tuple" (mVar 0)) (mIsi "tuple" (mVar 1))))) (m_law_same_0 r) mNx)
@[reducible] def m_law_same_e2 (r : MF) : ME := (mCall (callX r) (mCons (mVar 2) (mCons (mVar 3) mNil)))
@[reducible] def m_law_same_3 (r : MF) : MS := (mRet (mAnd (mOp (fEq false) (mCb fLen (mCons (mVar 0) mNil)) (mCb fLen (mCons (mVar 1) mNil))) (mCb fAll (mCons (mLc (mItZ (mCons (mVar 0) (mCons (mVar 1) mNil))) (tgPair 2 3) mYes (m_law_same_e2 r) [2, 3]) mNil))))
@[reducible] def m_law_same_4 (r : MF) : MS := (mIfS (mB (mIsi2 "list" "tuple" (mVar 1))) (mSeq (m_law_same_1 r)
  (m_law_same_3 r)) mNx)
@[reducible] def m_law_same_5 (r : MF) : MS := (mRet (mAnd (mOp (fEq false) (mVar 0) (mVar 1)) (mAnd (mOp (fEq false) (mIsi "bool" (mVar 0)) (mIsi "bool" (mVar 1))) (mOp (fEq false) (mOp (fIsN false) (mVar 0) (mC .non)) (mOp (fIsN false) (mVar 1) (mC .non))))))
@[reducible] def m_law_same_6 (r : MF) : MS := (mIfS (mtOr (mB (mOp (fIsN false) (mVar 1) (mC .non))) (mB (mIsi2 "bool" "str" (mVar 1)))) (m_law_same_5 r) mNx)
@[reducible] def m_law_same_7 (r : MF) : MS := (mRet (mAnd (mIsi "int" (mVar 0)) (mAnd (mNot (mIsi "bool" (mVar 0))) (mOp (fEq false) (mVar 0) (mVar 1)))))
theorem sc_law_same : FnScope ["_law_got", "_law_due", "_law_mine", "_law_its"] ["_law_got", "_law_due"] (defScope s_law_same) := ⟨rfl, rfl, rfl, by decide +kernel, rfl, by decide +kernel, by decide +kernel⟩
def m_law_same : Nat → MF
  | 0 => fun _ _ => none
  | j + 1 => mDef 2 4 (mSeq (m_law_same_4 (m_law_same j))
      (mSeq (m_law_same_6 (m_law_same j))
      (m_law_same_7 (m_law_same j))))
abbrev s_is_rule : Stmt := topS 12
@[reducible] def m_is_rule_0 : MS := (mRet (mAnd (mIsi "str" (mVar 0)) (mOp (fIn false) (mVar 0) (mC (.tup [.str "kept", .str "new", .str "both", .str "either"])))))
theorem sc_is_rule : FnScope ["thing"] ["thing"] (defScope s_is_rule) := ⟨rfl, rfl, rfl, by decide +kernel, rfl, by decide +kernel, by decide +kernel⟩
def m_is_rule : MF := mDef 1 1
  m_is_rule_0
abbrev s_law_hand_right : Stmt := topS 25
@[reducible] def m_law_hand_right_0 : MS := (mAsg (tgPair 0 1) (mTup (mCons (mCall (callX m_Lean_part) (mCons (mC (.int 1)) (mCons (mC (.int 2)) mNil))) (mCons (mTup (mCons (mC (.str "kept")) (mCons (mC (.str "new")) (mCons (mC (.str "both")) (mCons (mC (.str "either")) mNil))))) mNil))))
@[reducible] def m_law_hand_right_e1 : ME := (mCall (callX m_kept_by) (mCons (mTup (mCons (mC (.int 2)) (mCons (mC (.int 1)) mNil))) (mCons (mVar 0) (mCons (mVar 3) mNil))))
@[reducible] def m_law_hand_right_e2 : ME := (mCall (callX m_kept_by) (mCons (mTup (mCons (mC (.int 1)) (mCons (mC (.int 2)) mNil))) (mCons (mVar 0) (mCons (mVar 3) mNil))))
@[reducible] def m_law_hand_right_3 : MS := (mSetC 2 (mLst (mCons (mLc (mIt (mVar 1)) (tgName 3) mYes m_law_hand_right_e2 [3]) (mCons (mLc (mIt (mVar 1)) (tgName 3) mYes m_law_hand_right_e1 [3]) mNil))))
@[reducible] def m_law_hand_right_4 : MS := (mSetC 4 (mLst (mCons (mLst (mCons (mLst (mCons (mC (.int 1)) (mCons (mC (.int 2)) mNil))) (mCons (mLst (mCons (mC (.int 1)) mNil)) (mCons (mLst (mCons (mC (.int 1)) (mCons (mC (.int 2)) mNil))) (mCons (mLst (mCons (mC (.int 1)) mNil)) mNil))))) (mCons (mLst (mCons (mLst (mCons (mC (.int 2)) mNil)) (mCons (mLst (mCons (mC (.int 2)) (mCons (mC (.int 1)) mNil))) (mCons (mLst (mCons (mC (.int 2)) (mCons (mC (.int 1)) mNil))) (mCons (mLst (mCons (mC (.int 2)) mNil)) mNil))))) mNil))))
@[reducible] def m_law_hand_right_e5 : ME := (mCall (callX m_kept_by) (mCons (mTup (mCons (mC (.int 4)) (mCons (mC (.int 3)) (mCons (mC (.int 4)) (mCons (mUn (fun i => -i) (mC (.int 4))) mNil))))) (mCons (mVar 0) (mCons (mVar 3) mNil))))
@[reducible] def m_law_hand_right_6 : MS := (mDrop (mBm fAppend (mVar 2) (mCons (mLc (mIt (mVar 1)) (tgName 3) mYes m_law_hand_right_e5 [3]) mNil)))
@[reducible] def m_law_hand_right_7 : MS := (mDrop (mBm fAppend (mVar 4) (mCons (mOp fMul (mLst (mCons (mLst (mCons (mC (.int 4)) (mCons (mUn (fun i => -i) (mC (.int 4))) mNil))) mNil)) (mC (.int 4))) mNil)))
@[reducible] def m_law_hand_right_e8 : ME := (mCall (callX m_kept_by) (mCons (mTup (mCons (mC (.int 8)) (mCons (mC (.int 5)) (mCons (mC (.int 3)) (mCons (mC (.int 2)) mNil))))) (mCons (mVar 0) (mCons (mVar 3) mNil))))
@[reducible] def m_law_hand_right_9 : MS := (mDrop (mBm fAppend (mVar 2) (mCons (mLc (mIt (mVar 1)) (tgName 3) mYes m_law_hand_right_e8 [3]) mNil)))
@[reducible] def m_law_hand_right_10 : MS := (mDrop (mBm fAppend (mVar 4) (mCons (mLst (mCons (mLst (mCons (mC (.int 8)) (mCons (mC (.int 3)) mNil))) (mCons (mLst (mCons (mC (.int 8)) (mCons (mC (.int 5)) (mCons (mC (.int 3)) mNil)))) (mCons (mLst (mCons (mC (.int 8)) (mCons (mC (.int 5)) (mCons (mC (.int 3)) mNil)))) (mCons (mLst (mCons (mC (.int 8)) (mCons (mC (.int 3)) mNil))) mNil))))) mNil)))
@[reducible] def m_law_hand_right_e11 : ME := (mCall (callX m_kept_by) (mCons (mTup (mCons (mC (.int 90)) (mCons (mC (.int 27)) mNil))) (mCons (mCall (callX m_Lean_part) (mCons (mC (.int 7)) (mCons (mC (.int 10)) mNil))) (mCons (mVar 3) mNil))))
@[reducible] def m_law_hand_right_12 : MS := (mDrop (mBm fAppend (mVar 2) (mCons (mLc (mIt (mVar 1)) (tgName 3) mYes m_law_hand_right_e11 [3]) mNil)))
@[reducible] def m_law_hand_right_13 : MS := (mDrop (mBm fAppend (mVar 4) (mCons (mLst (mCons (mLst (mCons (mC (.int 90)) mNil)) (mCons (mLst (mCons (mC (.int 90)) (mCons (mC (.int 27)) mNil))) (mCons (mLst (mCons (mC (.int 90)) (mCons (mC (.int 27)) mNil))) (mCons (mLst (mCons (mC (.int 90)) mNil)) mNil))))) mNil)))
@[reducible] def m_law_hand_right_14 : MS := (mRet (mC (.bl false)))
@[reducible] def m_law_hand_right_15 : MS := (mIfS (mtNot (mB (mCall (callV [true, true] (m_law_same 5)) (mCons (mVar 2) (mCons (mVar 4) mNil))))) m_law_hand_right_14 mNx)
@[reducible] def m_law_hand_right_16 : MS := (mSet 5 (mLst (mCons (mC .non) (mCons (mC (.int 0)) (mCons (mC (.bl true)) (mCons (mC (.str "")) (mCons (mC (.str "Kept")) (mCons (mC (.str "keep")) (mCons (mC (.str "kept ")) (mCons (mTup (mCons (mC (.str "kept")) mNil)) (mCons (mLst (mCons (mC (.str "new")) mNil)) (mCons (mC (.str "newer")) (mCons (mTup mNil) (mCons (mLst mNil) (mCons (mC (.str "both either")) mNil)))))))))))))))
@[reducible] def m_law_hand_right_e17 : ME := (mCall (callX m_is_rule) (mCons (mVar 6) mNil))
@[reducible] def m_law_hand_right_18 : MS := (mRet (mC (.bl false)))
@[reducible] def m_law_hand_right_19 : MS := (mIfS (mtNot (mB (mCall (callX (m_law_same 5)) (mCons (mLc (mIt (mVar 5)) (tgName 6) mYes m_law_hand_right_e17 [6]) (mCons (mOp fMul (mLst (mCons (mC (.bl false)) mNil)) (mCb fLen (mCons (mVar 5) mNil))) mNil))))) m_law_hand_right_18 mNx)
@[reducible] def m_law_hand_right_e20 : ME := (mCall (callX m_is_rule) (mCons (mVar 3) mNil))
@[reducible] def m_law_hand_right_21 : MS := (mSetC 2 (mOp fAdd (mLc (mIt (mVar 1)) (tgName 3) mYes m_law_hand_right_e20 [3]) (mLst (mCons (mCallK (callX m_is_rule) 0 1 [0] mNil (mCons (mC (.str "new")) mNil)) (mCons (mCall (callX m_kept_by) (mCons (mTup mNil) (mCons (mVar 0) (mCons (mC (.str "new")) mNil)))) mNil)))))
@[reducible] def m_law_hand_right_22 : MS := (mRet (mCall (callV [true, false] (m_law_same 5)) (mCons (mVar 2) (mCons (mOp fAdd (mOp fMul (mLst (mCons (mC (.bl true)) mNil)) (mC (.int 5))) (mLst (mCons (mLst mNil) mNil))) mNil))))
theorem sc_law_hand_right : FnScope ["_law_half", "_law_words", "_law_got", "_law_word", "_law_due", "_law_odd", "_law_own"] [] (defScope s_law_hand_right) := ⟨rfl, rfl, rfl, by decide +kernel, rfl, by decide +kernel, by decide +kernel⟩
def m_law_hand_right : MF := mDef 0 7
  (mSeq m_law_hand_right_0
  (mSeq m_law_hand_right_3
  (mSeq m_law_hand_right_4
  (mSeq m_law_hand_right_6
  (mSeq m_law_hand_right_7
  (mSeq m_law_hand_right_9
  (mSeq m_law_hand_right_10
  (mSeq m_law_hand_right_12
  (mSeq m_law_hand_right_13
  (mSeq m_law_hand_right_15
  (mSeq m_law_hand_right_16
  (mSeq m_law_hand_right_19
  (mSeq m_law_hand_right_21
  m_law_hand_right_22)))))))))))))
abbrev s_law_take : Stmt := topS 16
@[reducible] def m_law_take_0 : MS := (mSet 2 (mOp fMod (mCb fInt (mCons (mOp fIx (mVar 0) (mC (.int 0))) mNil)) (mVar 1)))
@[reducible] def m_law_take_1 : MS := (mPut (mVar 0) (mC (.int 0)) (mOp fDiv (mOp fIx (mVar 0) (mC (.int 0))) (mVar 1)))
@[reducible] def m_law_take_2 : MS := (mRet (mVar 2))
@[reducible] def m_law_take_3 : MS := (mIfS (mB (mOp fGtI (mOp fIx (mVar 0) (mC (.int 0))) (mC (.int 0)))) (mSeq m_law_take_0
  (mSeq m_law_take_1
  m_law_take_2)) mNx)
@[reducible] def m_law_take_4 : MS := (mPut (mVar 0) (mC (.int 2)) (mOp fAdd (mOp fIx (mVar 0) (mC (.int 2))) (mC (.int 1))))
@[reducible] def m_law_take_5 : MS := (mSet 3 (mOp fMod (mCb fInt (mCons (mOp fMul (mOp fAdd (mOp fIx (mVar 0) (mC (.int 1))) (mOp fMul (mC (.int 48271)) (mOp fIx (mVar 0) (mC (.int 2))))) (mOp fAdd (mC (.int 39373)) (mOp fIx (mVar 0) (mC (.int 2))))) mNil)) (mC (.int 2147483647))))
@[reducible] def m_law_take_6 : MS := (mSet 4 (mOp fAdd (mOp fMod (mCb fInt (mCons (mVar 3) mNil)) (mC (.int 40009))) (mC (.int 7))))
@[reducible] def m_law_take_7 : MS := (mSet 5 (mOp fMod (mCb fInt (mCons (mOp fMul (mOp fAdd (mOp fAdd (mVar 3) (mOp fIx (mVar 0) (mC (.int 2)))) (mOp fDiv (mOp fIx (mVar 0) (mC (.int 1))) (mC (.int 1000003)))) (mVar 4)) mNil)) (mC (.int 2147483629))))
@[reducible] def m_law_take_8 : MS := (mRet (mOp fMod (mCb fInt (mCons (mOp fDiv (mOp fMod (mCb fInt (mCons (mOp fAdd (mOp fMul (mVar 5) (mC (.int 48271))) (mVar 3)) mNil)) (mC (.int 2147483587))) (mC (.int 64))) mNil)) (mVar 1)))
theorem sc_law_take : FnScope ["_law_box_here", "_law_below", "_law_drawn", "_law_once", "_law_far", "_law_twice"] ["_law_box_here", "_law_below"] (defScope s_law_take) := ⟨rfl, rfl, rfl, by decide +kernel, rfl, by decide +kernel, by decide +kernel⟩
def m_law_take : MF := mDef 2 6
  (mSeq m_law_take_3
  (mSeq m_law_take_4
  (mSeq m_law_take_5
  (mSeq m_law_take_6
  (mSeq m_law_take_7
  m_law_take_8)))))
abbrev s_law_of : Stmt := topS 18
@[reducible] def m_law_of_0 : MS := (mRet (mOp fIx (mVar 1) (mCall (callX m_law_take) (mCons (mVar 0) (mCons (mCb fLen (mCons (mVar 1) mNil)) mNil)))))
theorem sc_law_of : FnScope ["_law_box_here", "_law_some_so"] ["_law_box_here", "_law_some_so"] (defScope s_law_of) := ⟨rfl, rfl, rfl, by decide +kernel, rfl, by decide +kernel, by decide +kernel⟩
def m_law_of : MF := mDef 2 2
  m_law_of_0
abbrev s_law_pick : Stmt := topS 20
@[reducible] def m_law_pick_0 : MS := (mPar true true 3 4 (mCb fList (mCons (mVar 1) mNil)) (mLst mNil))
@[reducible] def m_law_pick_1 : MS := (mDrop (mBm fAppend (mVar 4) (mCons (mBm fPopAt (mVar 3) (mCons (mCall (callX m_law_take) (mCons (mVar 0) (mCons (mCb fLen (mCons (mVar 3) mNil)) mNil))) mNil)) mNil)))
@[reducible] def m_law_pick_2 : MS := (mFor (mItR1 (mCons (mCb fMin (mCons (mCb fInt (mCons (mVar 2) mNil)) (mCons (mCb fLen (mCons (mVar 3) mNil)) mNil))) mNil)) (tgName 5) m_law_pick_1)
@[reducible] def m_law_pick_3 : MS := (mRet (mVar 4))
theorem sc_law_pick : FnScope ["_law_box_here", "_law_some_so", "_law_many_so", "_law_rest", "_law_found", "_law_turn"] ["_law_box_here", "_law_some_so", "_law_many_so"] (defScope s_law_pick) := ⟨rfl, rfl, rfl, by decide +kernel, rfl, by decide +kernel, by decide +kernel⟩
def m_law_pick : MF := mDef 3 6
  (mSeq m_law_pick_0
  (mSeq m_law_pick_2
  m_law_pick_3))
abbrev s_law_values : Stmt := topS 21
@[reducible] def m_law_values_0 : MS := (mPar false true 2 3 (mOp fSub (mCall (callX m_law_take) (mCons (mVar 0) (mCons (mC (.int 41)) mNil))) (mC (.int 20))) (mLst mNil))
@[reducible] def m_law_values_1 : MS := (mDrop (mBm fAppend (mVar 3) (mCons (mVar 2) mNil)))
@[reducible] def m_law_values_2 : MS := (mSet 2 (mOp fAdd (mVar 2) (mCall (callX m_law_of) (mCons (mVar 0) (mCons (mLst (mCons (mC (.int 0)) (mCons (mC (.int 1)) (mCons (mC (.int 1)) (mCons (mC (.int 2)) (mCons (mC (.int 2)) (mCons (mC (.int 3)) (mCons (mC (.int 4)) (mCons (mC (.int 7)) mNil))))))))) mNil)))))
@[reducible] def m_law_values_b3 : MS := (mSeq m_law_values_1
  m_law_values_2)
@[reducible] def m_law_values_4 : MS := (mFor (mItR1 (mCons (mCall (callX m_law_take) (mCons (mVar 0) (mCons (mOp fAdd (mVar 1) (mC (.int 1))) mNil))) mNil)) (tgName 4) m_law_values_b3)
@[reducible] def m_law_values_5 : MS := (mRet (mCb fTuple (mCons (mCall (callV [false, true, false] m_law_pick) (mCons (mVar 0) (mCons (mVar 3) (mCons (mCb fLen (mCons (mVar 3) mNil)) mNil)))) mNil)))
theorem sc_law_values : FnScope ["_law_box_here", "_law_most_so", "_law_here", "_law_found", "_law_turn"] ["_law_box_here", "_law_most_so"] (defScope s_law_values) := ⟨rfl, rfl, rfl, by decide +kernel, rfl, by decide +kernel, by decide +kernel⟩
def m_law_values : MF := mDef 2 5
  (mSeq m_law_values_0
  (mSeq m_law_values_4
  m_law_values_5))
abbrev s_law_leans : Stmt := topS 22
@[reducible] def m_law_leans_0 : MS := (mRet (mOp fLeI (mOp fMul (mCb fAbs (mCons (mOp fSub (mVar 1) (mVar 2)) mNil)) (mOp fIx (mVar 0) (mC (.int 2)))) (mOp fAdd (mOp fMul (mOp fIx (mVar 0) (mC (.int 0))) (mOp fIx (mVar 0) (mC (.int 2)))) (mOp fMul (mOp fIx (mVar 0) (mC (.int 1))) (mCb fAbs (mCons (mVar 2) mNil))))))
theorem sc_law_leans : FnScope ["_law_parts", "_law_mine", "_law_its"] ["_law_parts", "_law_mine", "_law_its"] (defScope s_law_leans) := ⟨rfl, rfl, rfl, by decide +kernel, rfl, by decide +kernel, by decide +kernel⟩
def m_law_leans : MF := mDef 3 3
  m_law_leans_0
abbrev s_law_out : Stmt := topS 23
@[reducible] def m_law_out_0 : MS := (mRet (mCall (callX m_law_leans) (mCons (mVar 0) (mCons (mVar 3) (mCons (mVar 2) mNil)))))
@[reducible] def m_law_out_1 : MS := (mIfS (mB (mOp (fEq false) (mVar 1) (mC (.str "kept")))) m_law_out_0 mNx)
@[reducible] def m_law_out_2 : MS := (mRet (mCall (callX m_law_leans) (mCons (mVar 0) (mCons (mVar 2) (mCons (mVar 3) mNil)))))
@[reducible] def m_law_out_3 : MS := (mIfS (mB (mOp (fEq false) (mVar 1) (mC (.str "new")))) m_law_out_2 mNx)
@[reducible] def m_law_out_4 : MS := (mRet (mAnd (mCall (callX m_law_leans) (mCons (mVar 0) (mCons (mVar 3) (mCons (mVar 2) mNil)))) (mCall (callX m_law_leans) (mCons (mVar 0) (mCons (mVar 2) (mCons (mVar 3) mNil))))))
@[reducible] def m_law_out_5 : MS := (mIfS (mB (mOp (fEq false) (mVar 1) (mC (.str "both")))) m_law_out_4 mNx)
@[reducible] def m_law_out_6 : MS := (mRet (mOr (mCall (callX m_law_leans) (mCons (mVar 0) (mCons (mVar 3) (mCons (mVar 2) mNil)))) (mCall (callX m_law_leans) (mCons (mVar 0) (mCons (mVar 2) (mCons (mVar 3) mNil))))))
theorem sc_law_out : FnScope ["_law_parts", "_law_word", "_law_old", "_law_new"] ["_law_parts", "_law_word", "_law_old", "_law_new"] (defScope s_law_out) := ⟨rfl, rfl, rfl, by decide +kernel, rfl, by decide +kernel, by decide +kernel⟩
def m_law_out : MF := mDef 4 4
  (mSeq m_law_out_1
  (mSeq m_law_out_3
  (mSeq m_law_out_5
  m_law_out_6)))
abbrev s_law_stays : Stmt := topS 24
@[reducible] def m_law_stays_0 : MS := (mSetC 3 (mLst mNil))
@[reducible] def m_law_stays_c1 : MT := (mB (mCall (callX m_law_out) (mCons (mVar 0) (mCons (mVar 1) (mCons (mVar 5) (mCons (mVar 4) mNil))))))
@[reducible] def m_law_stays_e2 : ME := (mVar 5)
@[reducible] def m_law_stays_3 : MS := (mDrop (mBm fAppend (mVar 3) (mCons (mVar 4) mNil)))
@[reducible] def m_law_stays_4 : MS := (mIfS (mB (mOp (fEq false) (mLc (mIt (mVar 3)) (tgName 5) m_law_stays_c1 m_law_stays_e2 [5]) (mLst mNil))) m_law_stays_3 mNx)
@[reducible] def m_law_stays_5 : MS := (mFor (mIt (mVar 2)) (tgName 4) m_law_stays_4)
@[reducible] def m_law_stays_6 : MS := (mRet (mVar 3))
theorem sc_law_stays : FnScope ["_law_parts", "_law_word", "_law_row_so", "_law_found", "_law_own", "_law_its"] ["_law_parts", "_law_word", "_law_row_so"] (defScope s_law_stays) := ⟨rfl, rfl, rfl, by decide +kernel, rfl, by decide +kernel, by decide +kernel⟩
def m_law_stays : MF := mDef 3 6
  (mSeq m_law_stays_0
  (mSeq m_law_stays_5
  m_law_stays_6))
abbrev s_Lean_by : Stmt := inClass (topS 11) 2
@[reducible] def m_Lean_by_0 : MS := (mRet (mMake 0 m_Lean_init (mCons (mVar 0) (mCons (mC (.int 0)) (mCons (mC (.int 1)) mNil)))))
theorem sc_Lean_by : FnScope ["amount"] ["amount"] (defScope s_Lean_by) := ⟨rfl, rfl, rfl, by decide +kernel, rfl, by decide +kernel, by decide +kernel⟩
def m_Lean_by : MF := mDef 1 1
  m_Lean_by_0
abbrev s_law_right : Stmt := topS 26
@[reducible] def m_law_right_0 : MS := (mRet (mC (.bl false)))
@[reducible] def m_law_right_1 : MS := (mIfS (mtNot (mB (mCall (callX m_law_hand_right) mNil))) m_law_right_0 mNx)
@[reducible] def m_law_right_2 : MS := (mSet 2 (mCall (callX m_law_of) (mCons (mVar 0) (mCons (mLst (mCons (mTup (mCons (mC (.int 0)) (mCons (mC (.int 1)) mNil))) (mCons (mTup (mCons (mC (.int 1)) (mCons (mC (.int 2)) mNil))) (mCons (mTup (mCons (mC (.int 1)) (mCons (mC (.int 3)) mNil))) (mCons (mTup (mCons (mC (.int 2)) (mCons (mC (.int 3)) mNil))) (mCons (mTup (mCons (mC (.int 1)) (mCons (mC (.int 5)) mNil))) (mCons (mTup (mCons (mC (.int 1)) (mCons (mC (.int 10)) mNil))) (mCons (mTup (mCons (mC (.int 3)) (mCons (mC (.int 4)) mNil))) mNil)))))))) mNil))))
@[reducible] def m_law_right_3 : MS := (mPar false false 3 4 (mTup (mCons (mCall (callX m_law_of) (mCons (mVar 0) (mCons (mLst (mCons (mC (.int 0)) (mCons (mC (.int 0)) (mCons (mC (.int 1)) (mCons (mC (.int 2)) mNil))))) mNil))) (mCons (mOp fIx (mVar 2) (mC (.int 0))) (mCons (mOp fIx (mVar 2) (mC (.int 1))) mNil)))) (mCall (callX m_law_values) (mCons (mVar 0) (mCons (mC (.int 10)) mNil))))
@[reducible] def m_law_right_4 : MS := (mPar false false 5 6 (mMake 0 m_Lean_init (mCons (mOp fIx (mVar 3) (mC (.int 0))) (mCons (mOp fIx (mVar 3) (mC (.int 1))) (mCons (mOp fIx (mVar 3) (mC (.int 2))) mNil)))) (mCall (callX m_law_take) (mCons (mVar 0) (mCons (mC (.int 4)) mNil))))
@[reducible] def m_law_right_5 : MS := (mPar false false 8 9 (mCall (callX m_law_stays) (mCons (mVar 3) (mCons (mVar 7) (mCons (mVar 4) mNil)))) (mCb fList (mCons (mVar 4) mNil)))
@[reducible] def m_law_right_6 : MS := (mSetN 10 (mConsV (mCall (callX m_kept_by) (mCons (mVar 4) (mCons (mVar 5) (mCons (mVar 7) mNil)))) (mConsV (mCallK (callX m_kept_by) 0 3 [2, 1, 0] mNil (mCons (mVar 7) (mCons (mVar 5) (mCons (mVar 9) mNil)))) mNilV)))
@[reducible] def m_law_right_7 : MS := (mRet (mC (.bl false)))
@[reducible] def m_law_right_8 : MS := (mIfS (mtOr (mtNot (mB (mCallW (m_law_same 5) (mConsV (mVar 10) (mConsV (mLst (mCons (mVar 8) (mCons (mVar 8) mNil))) mNilV))))) (mB (mOp (fEq true) (mVar 9) (mCb fList (mCons (mVar 4) mNil))))) m_law_right_7 mNx)
@[reducible] def m_law_right_9 : MS := (mDrop (mBm fAppend (mOp fIxN (mVar 10) (mC (.int 0))) (mCons (mC (.str "more")) mNil)))
@[reducible] def m_law_right_10 : MS := (mSet 11 (mCall (callX m_law_stays) (mCons (mTup (mCons (mVar 6) (mCons (mC (.int 0)) (mCons (mC (.int 1)) mNil)))) (mCons (mC (.str "both")) (mCons (mVar 4) mNil)))))
@[reducible] def m_law_right_11 : MS := (mRet (mC (.bl false)))
@[reducible] def m_law_right_12 : MS := (mIfS (mtNot (mB (mCall (callX (m_law_same 5)) (mCons (mLst (mCons (mCall (callX m_kept_by) (mCons (mVar 4) (mCons (mVar 5) (mCons (mVar 7) mNil)))) (mCons (mCall (callX m_kept_by) (mCons (mVar 4) (mCons (mCall (callX m_Lean_by) (mCons (mVar 6) mNil)) (mCons (mVar 7) mNil)))) mNil))) (mCons (mLst (mCons (mVar 8) (mCons (mVar 11) mNil))) mNil))))) m_law_right_11 mNx)
@[reducible] def m_law_right_b13 : MS := (mSeq m_law_right_5
  (mSeq m_law_right_6
  (mSeq m_law_right_8
  (mSeq m_law_right_9
  (mSeq m_law_right_10
  m_law_right_12)))))
@[reducible] def m_law_right_14 : MS := (mFor (mIt (mTup (mCons (mC (.str "kept")) (mCons (mC (.str "new")) (mCons (mC (.str "both")) (mCons (mC (.str "either")) mNil)))))) (tgName 7) m_law_right_b13)
@[reducible] def m_law_right_b15 : MS := (mSeq m_law_right_2
  (mSeq m_law_right_3
  (mSeq m_law_right_4
  m_law_right_14)))
@[reducible] def m_law_right_16 : MS := (mFor (mItR1 (mCons (mC (.int 8)) mNil)) (tgName 1) m_law_right_b15)
@[reducible] def m_law_right_17 : MS := (mRet (mC (.bl true)))
theorem sc_law_right : FnScope ["_law_box_here", "_law_turn", "_law_share", "_law_parts", "_law_row_so", "_law_pull", "_law_far", "_law_word", "_law_due", "_law_soft", "_law_got", "_law_fixed"] ["_law_box_here"] (defScope s_law_right) := ⟨rfl, rfl, rfl, by decide +kernel, rfl, by decide +kernel, by decide +kernel⟩
def m_law_right : MF := mDef 1 12
  (mSeq m_law_right_1
  (mSeq m_law_right_16
  m_law_right_17))
abbrev s_law_box : Stmt := topS 15
@[reducible] def m_law_box_0 : MS := (mSet 2 (mIf (mB (mOp fLt (mVar 1) (mCb fLen (mCons (mVar 0) mNil)))) (mOp fIx (mVar 0) (mVar 1)) (mC (.int 0))))
@[reducible] def m_law_box_1 : MS := (mRet (mLst (mCons (mOp fMul (mCb fAbs (mCons (mVar 2) mNil)) (mCb fInt (mCons (mOp fGeI (mCb fAbs (mCons (mVar 2) mNil)) (mOp fPow (mC (.int 10)) (mC (.int 18)))) mNil))) (mCons (mOp fAdd (mOp fAdd (mOp fMod (mCb fInt (mCons (mVar 2) mNil)) (mC (.int 2305843009213693951))) (mOp fMul (mC (.int 39373)) (mVar 1))) (mC (.int 293))) (mCons (mC (.int 0)) mNil)))))
theorem sc_law_box : FnScope ["_law_script", "_law_k", "_law_cell"] ["_law_script", "_law_k"] (defScope s_law_box) := ⟨rfl, rfl, rfl, by decide +kernel, rfl, by decide +kernel, by decide +kernel⟩
def m_law_box : MF := mDef 2 3
  (mSeq m_law_box_0
  m_law_box_1)
abbrev s_law : Stmt := topS 27
@[reducible] def m_law_0 : MS := (mSet 1 (mCall (callX m_law_cells) (mCons (mVar 0) (mCons (mC (.int 3)) mNil))))
@[reducible] def m_law_e1 : ME := (mCall1 m_law_right (mCall (callX m_law_box) (mCons (mVar 1) (mCons (mVar 2) mNil))))
@[reducible] def m_law_2 : MS := (mRet (mCb fAll (mCons (mLc (mItR1 (mCons (mCb fLen (mCons (mVar 1) mNil)) mNil)) (tgName 2) mYes m_law_e1 [2]) mNil)))
theorem sc_law : FnScope ["_law_script", "_law_cells_so", "_law_k_so"] ["_law_script"] (defScope s_law) := ⟨rfl, rfl, rfl, by decide +kernel, rfl, by decide +kernel, by decide +kernel⟩
def m_law : MF := mDef 1 3
  (mSeq m_law_0
  m_law_2)
end NS
set_option Elab.async false
set_option linter.all false
set_option maxRecDepth 100000
set_option maxHeartbeats 4000000
namespace NS
open PySem PySem.Spec PyProof.Rows L2 DL
section
variable {P : Program} {w : World} {K : PySem.W.Frag} {mg : Str → Option Value} {base : Heap} {cl : Nat → Addr}
theorem t_law_cells_0 {f : Addr} (B : Bt mg) (cdv : Value) (A : Around) (outer : List Env) (s : Shared) (H : Hp) (E : XK) (hr : Room 0 (A.deeper (envOfC "_law_cells" (defScope s_law_cells) s.heap.objs.size f cdv))) :
    SS (cxOf CX0 P w K mg base ["_law_script", "_law_most_so", "_law_slots_so", "_law_k", "_law_cell", "_law_at_so"] "_law_cells" (defScope s_law_cells) f cdv A outer s H E).nox cl ((defBody s_law_cells).getD 0 (.Pass ⟨0, 0, 0, 0⟩)) m_law_cells_0 := by
  exact (ss_setC (i := 2) sc_law_cells.nd (se_or (se_list B.list (sa_cons (se_slice (se_var (i := 0)) so_none (so_some (se_var (i := 1)))) sa_nil)) (se_one (se_lst (sa_cons se_int sa_nil)))))
theorem t_law_cells_1 {f : Addr} (B : Bt mg) (cdv : Value) (A : Around) (outer : List Env) (s : Shared) (H : Hp) (E : XK) (hr : Room 0 (A.deeper (envOfC "_law_cells" (defScope s_law_cells) s.heap.objs.size f cdv))) :
    SS (cxOf CX0 P w K mg base ["_law_script", "_law_most_so", "_law_slots_so", "_law_k", "_law_cell", "_law_at_so"] "_law_cells" (defScope s_law_cells) f cdv A outer s H E).nox cl ((sub1 ((defBody s_law_cells).getD 1 (.Pass ⟨0, 0, 0, 0⟩))).getD 0 (.Pass ⟨0, 0, 0, 0⟩)) m_law_cells_1 := by
  exact (ss_set (i := 5) sc_law_cells.nd (se_mod (se_int1 B.int (sa_cons (se_var (i := 3)) sa_nil)) (se_var (i := 1))))
theorem t_law_cells_2 {f : Addr} (B : Bt mg) (cdv : Value) (A : Around) (outer : List Env) (s : Shared) (H : Hp) (E : XK) (hr : Room 0 (A.deeper (envOfC "_law_cells" (defScope s_law_cells) s.heap.objs.size f cdv))) :
    SS (cxOf CX0 P w K mg base ["_law_script", "_law_most_so", "_law_slots_so", "_law_k", "_law_cell", "_law_at_so"] "_law_cells" (defScope s_law_cells) f cdv A outer s H E).nox cl ((sub1 ((defBody s_law_cells).getD 1 (.Pass ⟨0, 0, 0, 0⟩))).getD 1 (.Pass ⟨0, 0, 0, 0⟩)) m_law_cells_2 := by
  exact (ss_put (se_var (i := 2)) (se_var (i := 5)) (se_add (se_ix (se_var (i := 2)) (se_var (i := 5))) (se_mul (se_var (i := 4)) (se_add (se_var (i := 3)) se_int))))
theorem t_law_cells_4 {f : Addr} (B : Bt mg) (cdv : Value) (A : Around) (outer : List Env) (s : Shared) (H : Hp) (E : XK) (hr : Room 0 (A.deeper (envOfC "_law_cells" (defScope s_law_cells) s.heap.objs.size f cdv))) :
    SS (cxOf CX0 P w K mg base ["_law_script", "_law_most_so", "_law_slots_so", "_law_k", "_law_cell", "_law_at_so"] "_law_cells" (defScope s_law_cells) f cdv A outer s H E).nox cl ((defBody s_law_cells).getD 1 (.Pass ⟨0, 0, 0, 0⟩)) m_law_cells_4 := by
  exact (ss_for (si_enum B.enumerate (sa_cons (se_slice (se_var (i := 0)) (so_some (se_var (i := 1))) (so_some se_int)) sa_nil)) (sg_pair (i := 3) (j := 4) (vs := [3, 4]) sc_law_cells.nd) (sss_cons (t_law_cells_1 B cdv A outer s H E hr)
    (sss_one (t_law_cells_2 B cdv A outer s H E hr))))
theorem t_law_cells_5 {f : Addr} (B : Bt mg) (cdv : Value) (A : Around) (outer : List Env) (s : Shared) (H : Hp) (E : XK) (hr : Room 0 (A.deeper (envOfC "_law_cells" (defScope s_law_cells) s.heap.objs.size f cdv))) :
    SS (cxOf CX0 P w K mg base ["_law_script", "_law_most_so", "_law_slots_so", "_law_k", "_law_cell", "_law_at_so"] "_law_cells" (defScope s_law_cells) f cdv A outer s H E).nox cl ((defBody s_law_cells).getD 2 (.Pass ⟨0, 0, 0, 0⟩)) m_law_cells_5 := by
  exact (ss_ret (se_var (i := 2)))
theorem ok_law_cells {f : Addr} {fd : FuncData} (F : Fun K "_law_cells" "_law_cells" s_law_cells f fd) (B : Bt mg) : FnOk P w K mg base CX0 1 f fd ["_law_script", "_law_most_so"] (spM K cl 2 m_law_cells) := by
  refine def_ok (N := ["_law_script", "_law_most_so", "_law_slots_so", "_law_k", "_law_cell", "_law_at_so"]) (n := 2) F sc_law_cells rfl (fun cdv A outer s H E hr => ?_)
  exact (sss_cons (t_law_cells_0 B cdv A outer s H E hr)
    (sss_cons (t_law_cells_4 B cdv A outer s H E hr)
    (sss_one (t_law_cells_5 B cdv A outer s H E hr))))
theorem fs_law_cells {f : Addr} {fd : FuncData} (F : Fun K "_law_cells" "_law_cells" s_law_cells f fd) (hm : mg "_law_cells" = some (.ref f)) (B : Bt mg) : FS P w K mg base cl 1 "_law_cells" 2 m_law_cells :=
  ⟨⟨f, fd, ["_law_script", "_law_most_so"], ok_law_cells F B, hm, F.kp, F.binds (ps := ["_law_script", "_law_most_so"]) fun _ _ _ _ _ _ us hl => match us, hl with | [_, _], _ => rfl, rfl⟩, fun rs μ z h => mDef_ar rs μ z h⟩
end
end NS
set_option Elab.async false
set_option linter.all false
set_option maxRecDepth 100000
set_option maxHeartbeats 4000000
namespace NS
open PySem PySem.Spec PyProof.Rows L2 DL
section
variable {P : Program} {w : World} {K : PySem.W.Frag} {mg : Str → Option Value} {base : Heap} {cl : Nat → Addr}
theorem ok_Lean_init {f : Addr} {fd : FuncData} (F : Fun K "__init__" "Lean.__init__" s_Lean_init f fd) (B : Bt mg) (L_Lean : ClS K cl 0 ["amount", "bottom", "top"]) (hne : ∀ δ μ pd μ', (mbSeq (mbIf (mtNot (mB (mChain fLeI fLtI (mC (.int 0)) (mVar 2) (mVar 3))))) (mbTup [0, 2, 1] (mTup (mCons (mVar 1) (mCons (mVar 2) (mCons (mVar 3) mNil)))))) δ μ pd ≠ some (μ', [])) : FnOk P w K mg base CX0 1 f fd ["self", "amount", "top", "bottom"] (spI K cl 0 4 m_Lean_init) := by
  refine init_ok (N := ["self", "amount", "top", "bottom"]) (n := 4) F sc_Lean_init rfl (by decide) hne (fun cdv A outer s H E hr => ?_)
  exact (sbs_cons (sb_if (st_not (st_lelt se_int (se_var (i := 2)) (se_var (i := 3))))) (sbs_one (sb_tup (gs_cons (i := 0) L_Lean (gs_cons (i := 2) L_Lean (gs_cons (i := 1) L_Lean gs_nil))) (se_tup (sa_cons (se_var (i := 1)) (sa_cons (se_var (i := 2)) (sa_cons (se_var (i := 3)) sa_nil)))))))
theorem fs_Lean_init {f : Addr} {fd : FuncData} (F : Fun K "__init__" "Lean.__init__" s_Lean_init f fd) (M : Mk K (cl 0) f) (hm : mg "Lean" = some (.ref (cl 0))) (B : Bt mg) (L_Lean : ClS K cl 0 ["amount", "bottom", "top"]) (hne : ∀ δ μ pd μ', (mbSeq (mbIf (mtNot (mB (mChain fLeI fLtI (mC (.int 0)) (mVar 2) (mVar 3))))) (mbTup [0, 2, 1] (mTup (mCons (mVar 1) (mCons (mVar 2) (mCons (mVar 3) mNil)))))) δ μ pd ≠ some (μ', [])) : FI P w K mg base cl 1 0 "Lean" 4 m_Lean_init :=
  ⟨⟨f, fd, ["self", "amount", "top", "bottom"], M, ok_Lean_init F B L_Lean hne, hm, F.binds (ps := ["self", "amount", "top", "bottom"]) fun _ _ _ _ _ _ us hl => match us, hl with | [_, _, _, _], _ => rfl, rfl⟩, mInit_ar⟩
end
end NS
set_option Elab.async false
set_option linter.all false
set_option maxRecDepth 100000
set_option maxHeartbeats 4000000
namespace NS
open PySem PySem.Spec PyProof.Rows L2 DL
section
variable {P : Program} {w : World} {K : PySem.W.Frag} {mg : Str → Option Value} {base : Heap} {cl : Nat → Addr}
theorem t_Lean_part_0 {f : Addr} (B : Bt mg) (S_Lean_init : FI P w K mg base cl 1 0 "Lean" 4 m_Lean_init) (cdv : Value) (A : Around) (outer : List Env) (s : Shared) (H : Hp) (E : XK) (hr : Room 2 (A.deeper (envOfC "Lean.part" (defScope s_Lean_part) s.heap.objs.size f cdv))) :
    SS (cxOf CX0 P w K mg base ["top", "bottom"] "Lean.part" (defScope s_Lean_part) f cdv A outer s H E).nox cl ((defBody s_Lean_part).getD 0 (.Pass ⟨0, 0, 0, 0⟩)) m_Lean_part_0 := by
  exact (ss_ret (se_make S_Lean_init hr (by decide) (sa_cons se_int (sa_cons (se_var (i := 0)) (sa_cons (se_var (i := 1)) sa_nil)))))
theorem ok_Lean_part {f : Addr} {fd : FuncData} (F : Fun K "part" "Lean.part" s_Lean_part f fd) (B : Bt mg) (S_Lean_init : FI P w K mg base cl 1 0 "Lean" 4 m_Lean_init) : FnOk P w K mg base CX0 3 f fd ["top", "bottom"] (spM K cl 2 m_Lean_part) := by
  refine def_ok (N := ["top", "bottom"]) (n := 2) F sc_Lean_part rfl (fun cdv A outer s H E hr => ?_)
  exact (sss_one (t_Lean_part_0 B S_Lean_init cdv A outer s H E hr))
theorem fa_Lean_part {f : Addr} {fd : FuncData} (F : Fun K "part" "Lean.part" s_Lean_part f fd) (B : Bt mg) (S_Lean_init : FI P w K mg base cl 1 0 "Lean" 4 m_Lean_init) : FA P w K mg base cl 3 f 2 m_Lean_part :=
  FA.of (ok_Lean_part F B S_Lean_init) (F.binds (ps := ["top", "bottom"]) fun _ _ _ _ _ _ us hl => match us, hl with | [_, _], _ => rfl) F.kp (fun rs μ z h => mDef_ar rs μ z h)
end
end NS
set_option Elab.async false
set_option linter.all false
set_option maxRecDepth 100000
set_option maxHeartbeats 4000000
namespace NS
open PySem PySem.Spec PyProof.Rows L2 DL
section
variable {P : Program} {w : World} {K : PySem.W.Frag} {mg : Str → Option Value} {base : Heap} {cl : Nat → Addr}
theorem t_tupled_1 {f : Addr} (B : Bt mg) {j : Nat} (S_tupled : FS P w K mg base cl (0 + j + 1) "tupled" 1 (m_tupled j)) (cdv : Value) (A : Around) (outer : List Env) (s : Shared) (H : Hp) (E : XK) (hr : Room (0 + j + 1) (A.deeper (envOfC "tupled" (defScope s_tupled) s.heap.objs.size f cdv))) :
    SS (cxOf CX0 P w K mg base ["thing", "part"] "tupled" (defScope s_tupled) f cdv A outer s H E).nox cl ((sub1 ((defBody s_tupled).getD 0 (.Pass ⟨0, 0, 0, 0⟩))).getD 0 (.Pass ⟨0, 0, 0, 0⟩)) (m_tupled_1 (m_tupled j)) := by
  exact (ss_ret (se_tuple B.tuple (sa_cons (se_lc (own := [("part", 1)]) sc_tupled.nd (si_seq (se_var (i := 0))) (sem_name (by decide)) (fun _ _ _ _ _ => (sg_name (cl := cl) (vs := [1]) (i := 1) sc_tupled.nd).1) (fun _ _ _ _ _ => stt_nil) (fun _ _ _ _ _ => (se_call S_tupled.x hr (Nat.le_refl _) (sa_cons (se_var (i := 1)) sa_nil))) (blkOk_by (by kernel_rfl))) sa_nil)))
theorem t_tupled_2 {f : Addr} (B : Bt mg) {j : Nat} (S_tupled : FS P w K mg base cl (0 + j + 1) "tupled" 1 (m_tupled j)) (cdv : Value) (A : Around) (outer : List Env) (s : Shared) (H : Hp) (E : XK) (hr : Room (0 + j + 1) (A.deeper (envOfC "tupled" (defScope s_tupled) s.heap.objs.size f cdv))) :
    SS (cxOf CX0 P w K mg base ["thing", "part"] "tupled" (defScope s_tupled) f cdv A outer s H E).nox cl ((defBody s_tupled).getD 0 (.Pass ⟨0, 0, 0, 0⟩)) (m_tupled_2 (m_tupled j)) := by
  exact (ss_if (st_val (se_isi2 B.isinstance B.list B.tuple (by decide) (by decide) boot_list' boot_tuple' (se_var (i := 0)))) (sss_one (t_tupled_1 B S_tupled cdv A outer s H E hr)) sss_nil)
theorem t_tupled_3 {f : Addr} (B : Bt mg) {j : Nat} (S_tupled : FS P w K mg base cl (0 + j + 1) "tupled" 1 (m_tupled j)) (cdv : Value) (A : Around) (outer : List Env) (s : Shared) (H : Hp) (E : XK) (hr : Room (0 + j + 1) (A.deeper (envOfC "tupled" (defScope s_tupled) s.heap.objs.size f cdv))) :
    SS (cxOf CX0 P w K mg base ["thing", "part"] "tupled" (defScope s_tupled) f cdv A outer s H E).nox cl ((defBody s_tupled).getD 1 (.Pass ⟨0, 0, 0, 0⟩)) (m_tupled_3 (m_tupled j)) := by
  exact (ss_ret (se_var (i := 0)))
theorem ok_tupled {f : Addr} {fd : FuncData} (F : Fun K "tupled" "tupled" s_tupled f fd) (B : Bt mg) (hm : mg "tupled" = some (.ref f)) (bn : Binds K fd ["thing"] []) : ∀ j : Nat, FnOk P w K mg base CX0 (0 + j + 1) f fd ["thing"] (spM K cl 1 (m_tupled j))
  | 0 => def_zero
  | j + 1 => by
    have S_tupled : FS P w K mg base cl (0 + j + 1) "tupled" 1 (m_tupled j) := ⟨⟨f, fd, ["thing"], ok_tupled F B hm bn j, hm, F.kp, bn, rfl⟩, fun rs μ z h => by
      cases j with
      | zero => cases h
      | succ j => exact mDef_ar rs μ z h⟩
    refine def_ok (N := ["thing", "part"]) (n := 1) F sc_tupled rfl (fun cdv A outer s H E hr => ?_)
    exact (sss_cons (t_tupled_2 B S_tupled cdv A outer s H E hr)
    (sss_one (t_tupled_3 B S_tupled cdv A outer s H E hr)))
theorem fs_tupled {f : Addr} {fd : FuncData} (F : Fun K "tupled" "tupled" s_tupled f fd) (hm : mg "tupled" = some (.ref f)) (B : Bt mg) : FS P w K mg base cl 5 "tupled" 1 (m_tupled 4) :=
  ⟨⟨f, fd, ["thing"], ok_tupled F B hm (F.binds (ps := ["thing"]) fun _ _ _ _ _ _ us hl => match us, hl with | [_], _ => rfl) 4, hm, F.kp, F.binds (ps := ["thing"]) fun _ _ _ _ _ _ us hl => match us, hl with | [_], _ => rfl, rfl⟩, fun rs μ z h => mDef_ar rs μ z h⟩
end
end NS
set_option Elab.async false
set_option linter.all false
set_option maxRecDepth 100000
set_option maxHeartbeats 4000000
namespace NS
open PySem PySem.Spec PyProof.Rows L2 DL
section
variable {P : Program} {w : World} {K : PySem.W.Frag} {mg : Str → Option Value} {base : Heap} {cl : Nat → Addr}
theorem t_Lean_leans_0 {f : Addr} (B : Bt mg) (L_Lean : ClS K cl 0 ["amount", "bottom", "top"]) (cdv : Value) (A : Around) (outer : List Env) (s : Shared) (H : Hp) (E : XK) (hr : Room 0 (A.deeper (envOfC "Lean.leans" (defScope s_Lean_leans) s.heap.objs.size f cdv))) :
    SS (cxOf CX0 P w K mg base ["self", "one", "other"] "Lean.leans" (defScope s_Lean_leans) f cdv A outer s H E).nox cl ((defBody s_Lean_leans).getD 0 (.Pass ⟨0, 0, 0, 0⟩)) m_Lean_leans_0 := by
  exact (ss_ret (se_le (se_mul (se_abs B.abs (sa_cons (se_sub (se_var (i := 1)) (se_var (i := 2))) sa_nil)) (se_attr (c := 0) (i := 1) L_Lean (se_var (i := 0)))) (se_add (se_mul (se_attr (c := 0) (i := 0) L_Lean (se_var (i := 0))) (se_attr (c := 0) (i := 1) L_Lean (se_var (i := 0)))) (se_mul (se_abs B.abs (sa_cons (se_var (i := 2)) sa_nil)) (se_attr (c := 0) (i := 2) L_Lean (se_var (i := 0)))))))
theorem ok_Lean_leans {f : Addr} {fd : FuncData} (F : Fun K "leans" "Lean.leans" s_Lean_leans f fd) (B : Bt mg) (L_Lean : ClS K cl 0 ["amount", "bottom", "top"]) : FnOk P w K mg base CX0 1 f fd ["self", "one", "other"] (spM K cl 3 m_Lean_leans) := by
  refine def_ok (N := ["self", "one", "other"]) (n := 3) F sc_Lean_leans rfl (fun cdv A outer s H E hr => ?_)
  exact (sss_one (t_Lean_leans_0 B L_Lean cdv A outer s H E hr))
theorem fa_Lean_leans {f : Addr} {fd : FuncData} (F : Fun K "leans" "Lean.leans" s_Lean_leans f fd) (B : Bt mg) (L_Lean : ClS K cl 0 ["amount", "bottom", "top"]) : FA P w K mg base cl 1 f 3 m_Lean_leans :=
  FA.of (ok_Lean_leans F B L_Lean) (F.binds (ps := ["self", "one", "other"]) fun _ _ _ _ _ _ us hl => match us, hl with | [_, _, _], _ => rfl) F.kp (fun rs μ z h => mDef_ar rs μ z h)
end
end NS
set_option Elab.async false
set_option linter.all false
set_option maxRecDepth 100000
set_option maxHeartbeats 4000000
namespace NS
open PySem PySem.Spec PyProof.Rows L2 DL
section
variable {P : Program} {w : World} {K : PySem.W.Frag} {mg : Str → Option Value} {base : Heap} {cl : Nat → Addr}
theorem t_Lean_counts_0 {f : Addr} (B : Bt mg) (S_Lean_leans : FM P w K mg base cl 1 0 "leans" 3 m_Lean_leans) (G_KEPT : ∃ t, mg "KEPT" = some (.str "kept" t)) (G_NEW : ∃ t, mg "NEW" = some (.str "new" t)) (G_BOTH : ∃ t, mg "BOTH" = some (.str "both" t)) (cdv : Value) (A : Around) (outer : List Env) (s : Shared) (H : Hp) (E : XK) (hr : Room 1 (A.deeper (envOfC "Lean.counts" (defScope s_Lean_counts) s.heap.objs.size f cdv))) :
    SS (cxOf CX0 P w K mg base ["self", "rule", "kept", "new", "there", "back"] "Lean.counts" (defScope s_Lean_counts) f cdv A outer s H E).nox cl ((defBody s_Lean_counts).getD 0 (.Pass ⟨0, 0, 0, 0⟩)) m_Lean_counts_0 := by
  exact (ss_par (ci := false) (cj := false) (i := 4) (j := 5) sc_Lean_counts.nd (se_meth S_Lean_leans.x hr (by decide) (se_var (i := 0)) (sa_cons (se_var (i := 3)) (sa_cons (se_var (i := 2)) sa_nil))) (se_meth S_Lean_leans.x hr (by decide) (se_var (i := 0)) (sa_cons (se_var (i := 2)) (sa_cons (se_var (i := 3)) sa_nil))))
theorem t_Lean_counts_1 {f : Addr} (B : Bt mg) (S_Lean_leans : FM P w K mg base cl 1 0 "leans" 3 m_Lean_leans) (G_KEPT : ∃ t, mg "KEPT" = some (.str "kept" t)) (G_NEW : ∃ t, mg "NEW" = some (.str "new" t)) (G_BOTH : ∃ t, mg "BOTH" = some (.str "both" t)) (cdv : Value) (A : Around) (outer : List Env) (s : Shared) (H : Hp) (E : XK) (hr : Room 1 (A.deeper (envOfC "Lean.counts" (defScope s_Lean_counts) s.heap.objs.size f cdv))) :
    SS (cxOf CX0 P w K mg base ["self", "rule", "kept", "new", "there", "back"] "Lean.counts" (defScope s_Lean_counts) f cdv A outer s H E).nox cl ((sub1 ((defBody s_Lean_counts).getD 1 (.Pass ⟨0, 0, 0, 0⟩))).getD 0 (.Pass ⟨0, 0, 0, 0⟩)) m_Lean_counts_1 := by
  exact (ss_ret (se_var (i := 4)))
theorem t_Lean_counts_2 {f : Addr} (B : Bt mg) (S_Lean_leans : FM P w K mg base cl 1 0 "leans" 3 m_Lean_leans) (G_KEPT : ∃ t, mg "KEPT" = some (.str "kept" t)) (G_NEW : ∃ t, mg "NEW" = some (.str "new" t)) (G_BOTH : ∃ t, mg "BOTH" = some (.str "both" t)) (cdv : Value) (A : Around) (outer : List Env) (s : Shared) (H : Hp) (E : XK) (hr : Room 1 (A.deeper (envOfC "Lean.counts" (defScope s_Lean_counts) s.heap.objs.size f cdv))) :
    SS (cxOf CX0 P w K mg base ["self", "rule", "kept", "new", "there", "back"] "Lean.counts" (defScope s_Lean_counts) f cdv A outer s H E).nox cl ((defBody s_Lean_counts).getD 1 (.Pass ⟨0, 0, 0, 0⟩)) m_Lean_counts_2 := by
  exact (ss_if (st_eq hr.units (se_var (i := 1)) (se_con G_KEPT)) (sss_one (t_Lean_counts_1 B S_Lean_leans G_KEPT G_NEW G_BOTH cdv A outer s H E hr)) sss_nil)
theorem t_Lean_counts_3 {f : Addr} (B : Bt mg) (S_Lean_leans : FM P w K mg base cl 1 0 "leans" 3 m_Lean_leans) (G_KEPT : ∃ t, mg "KEPT" = some (.str "kept" t)) (G_NEW : ∃ t, mg "NEW" = some (.str "new" t)) (G_BOTH : ∃ t, mg "BOTH" = some (.str "both" t)) (cdv : Value) (A : Around) (outer : List Env) (s : Shared) (H : Hp) (E : XK) (hr : Room 1 (A.deeper (envOfC "Lean.counts" (defScope s_Lean_counts) s.heap.objs.size f cdv))) :
    SS (cxOf CX0 P w K mg base ["self", "rule", "kept", "new", "there", "back"] "Lean.counts" (defScope s_Lean_counts) f cdv A outer s H E).nox cl ((sub1 ((defBody s_Lean_counts).getD 2 (.Pass ⟨0, 0, 0, 0⟩))).getD 0 (.Pass ⟨0, 0, 0, 0⟩)) m_Lean_counts_3 := by
  exact (ss_ret (se_var (i := 5)))
theorem t_Lean_counts_4 {f : Addr} (B : Bt mg) (S_Lean_leans : FM P w K mg base cl 1 0 "leans" 3 m_Lean_leans) (G_KEPT : ∃ t, mg "KEPT" = some (.str "kept" t)) (G_NEW : ∃ t, mg "NEW" = some (.str "new" t)) (G_BOTH : ∃ t, mg "BOTH" = some (.str "both" t)) (cdv : Value) (A : Around) (outer : List Env) (s : Shared) (H : Hp) (E : XK) (hr : Room 1 (A.deeper (envOfC "Lean.counts" (defScope s_Lean_counts) s.heap.objs.size f cdv))) :
    SS (cxOf CX0 P w K mg base ["self", "rule", "kept", "new", "there", "back"] "Lean.counts" (defScope s_Lean_counts) f cdv A outer s H E).nox cl ((defBody s_Lean_counts).getD 2 (.Pass ⟨0, 0, 0, 0⟩)) m_Lean_counts_4 := by
  exact (ss_if (st_eq hr.units (se_var (i := 1)) (se_con G_NEW)) (sss_one (t_Lean_counts_3 B S_Lean_leans G_KEPT G_NEW G_BOTH cdv A outer s H E hr)) sss_nil)
theorem t_Lean_counts_5 {f : Addr} (B : Bt mg) (S_Lean_leans : FM P w K mg base cl 1 0 "leans" 3 m_Lean_leans) (G_KEPT : ∃ t, mg "KEPT" = some (.str "kept" t)) (G_NEW : ∃ t, mg "NEW" = some (.str "new" t)) (G_BOTH : ∃ t, mg "BOTH" = some (.str "both" t)) (cdv : Value) (A : Around) (outer : List Env) (s : Shared) (H : Hp) (E : XK) (hr : Room 1 (A.deeper (envOfC "Lean.counts" (defScope s_Lean_counts) s.heap.objs.size f cdv))) :
    SS (cxOf CX0 P w K mg base ["self", "rule", "kept", "new", "there", "back"] "Lean.counts" (defScope s_Lean_counts) f cdv A outer s H E).nox cl ((defBody s_Lean_counts).getD 3 (.Pass ⟨0, 0, 0, 0⟩)) m_Lean_counts_5 := by
  exact (ss_ret (se_if (st_eq hr.units (se_var (i := 1)) (se_con G_BOTH)) (se_and (se_var (i := 4)) (se_one (se_var (i := 5)))) (se_or (se_var (i := 4)) (se_one (se_var (i := 5))))))
theorem ok_Lean_counts {f : Addr} {fd : FuncData} (F : Fun K "counts" "Lean.counts" s_Lean_counts f fd) (B : Bt mg) (S_Lean_leans : FM P w K mg base cl 1 0 "leans" 3 m_Lean_leans) (G_KEPT : ∃ t, mg "KEPT" = some (.str "kept" t)) (G_NEW : ∃ t, mg "NEW" = some (.str "new" t)) (G_BOTH : ∃ t, mg "BOTH" = some (.str "both" t)) : FnOk P w K mg base CX0 2 f fd ["self", "rule", "kept", "new"] (spM K cl 4 m_Lean_counts) := by
  refine def_ok (N := ["self", "rule", "kept", "new", "there", "back"]) (n := 4) F sc_Lean_counts rfl (fun cdv A outer s H E hr => ?_)
  exact (sss_cons (t_Lean_counts_0 B S_Lean_leans G_KEPT G_NEW G_BOTH cdv A outer s H E hr)
    (sss_cons (t_Lean_counts_2 B S_Lean_leans G_KEPT G_NEW G_BOTH cdv A outer s H E hr)
    (sss_cons (t_Lean_counts_4 B S_Lean_leans G_KEPT G_NEW G_BOTH cdv A outer s H E hr)
    (sss_one (t_Lean_counts_5 B S_Lean_leans G_KEPT G_NEW G_BOTH cdv A outer s H E hr)))))
theorem fa_Lean_counts {f : Addr} {fd : FuncData} (F : Fun K "counts" "Lean.counts" s_Lean_counts f fd) (B : Bt mg) (S_Lean_leans : FM P w K mg base cl 1 0 "leans" 3 m_Lean_leans) (G_KEPT : ∃ t, mg "KEPT" = some (.str "kept" t)) (G_NEW : ∃ t, mg "NEW" = some (.str "new" t)) (G_BOTH : ∃ t, mg "BOTH" = some (.str "both" t)) : FA P w K mg base cl 2 f 4 m_Lean_counts :=
  FA.of (ok_Lean_counts F B S_Lean_leans G_KEPT G_NEW G_BOTH) (F.binds (ps := ["self", "rule", "kept", "new"]) fun _ _ _ _ _ _ us hl => match us, hl with | [_, _, _, _], _ => rfl) F.kp (fun rs μ z h => mDef_ar rs μ z h)
end
end NS
set_option Elab.async false
set_option linter.all false
set_option maxRecDepth 100000
set_option maxHeartbeats 4000000
namespace NS
open PySem PySem.Spec PyProof.Rows L2 DL
section
variable {P : Program} {w : World} {K : PySem.W.Frag} {mg : Str → Option Value} {base : Heap} {cl : Nat → Addr}
theorem t_kept_by_0 {f : Addr} (B : Bt mg) (S_tupled : FS P w K mg base cl 5 "tupled" 1 (m_tupled 4)) (S_Lean_counts : FM P w K mg base cl 2 0 "counts" 4 m_Lean_counts) (cdv : Value) (A : Around) (outer : List Env) (s : Shared) (H : Hp) (E : XK) (hr : Room 5 (A.deeper (envOfC "kept_by" (defScope s_kept_by) s.heap.objs.size f cdv))) :
    SS (cxOf CX0 P w K mg base ["values", "lean", "rule", "found", "value", "own"] "kept_by" (defScope s_kept_by) f cdv A outer s H E).nox cl ((defBody s_kept_by).getD 0 (.Pass ⟨0, 0, 0, 0⟩)) m_kept_by_0 := by
  exact (ss_setC (i := 3) sc_kept_by.nd (se_lst sa_nil))
theorem t_kept_by_2 {f : Addr} (B : Bt mg) (S_tupled : FS P w K mg base cl 5 "tupled" 1 (m_tupled 4)) (S_Lean_counts : FM P w K mg base cl 2 0 "counts" 4 m_Lean_counts) (cdv : Value) (A : Around) (outer : List Env) (s : Shared) (H : Hp) (E : XK) (hr : Room 5 (A.deeper (envOfC "kept_by" (defScope s_kept_by) s.heap.objs.size f cdv))) :
    SS (cxOf CX0 P w K mg base ["values", "lean", "rule", "found", "value", "own"] "kept_by" (defScope s_kept_by) f cdv A outer s H E).nox cl ((sub1 ((sub1 ((defBody s_kept_by).getD 1 (.Pass ⟨0, 0, 0, 0⟩))).getD 0 (.Pass ⟨0, 0, 0, 0⟩))).getD 0 (.Pass ⟨0, 0, 0, 0⟩)) m_kept_by_2 := by
  exact (ss_expr (se_append (se_var (i := 3)) (sa_cons (se_var (i := 4)) sa_nil)))
theorem t_kept_by_3 {f : Addr} (B : Bt mg) (S_tupled : FS P w K mg base cl 5 "tupled" 1 (m_tupled 4)) (S_Lean_counts : FM P w K mg base cl 2 0 "counts" 4 m_Lean_counts) (cdv : Value) (A : Around) (outer : List Env) (s : Shared) (H : Hp) (E : XK) (hr : Room 5 (A.deeper (envOfC "kept_by" (defScope s_kept_by) s.heap.objs.size f cdv))) :
    SS (cxOf CX0 P w K mg base ["values", "lean", "rule", "found", "value", "own"] "kept_by" (defScope s_kept_by) f cdv A outer s H E).nox cl ((sub1 ((defBody s_kept_by).getD 1 (.Pass ⟨0, 0, 0, 0⟩))).getD 0 (.Pass ⟨0, 0, 0, 0⟩)) m_kept_by_3 := by
  exact (ss_if (st_not (st_val (se_any B.any (sa_cons (se_lc (own := [("own", 5)]) sc_kept_by.nd (si_seq (se_var (i := 3))) (sem_name (by decide)) (fun _ _ _ _ _ => (sg_name (cl := cl) (vs := [5]) (i := 5) sc_kept_by.nd).1) (fun _ _ _ _ _ => stt_nil) (fun _ _ _ _ _ => (se_meth S_Lean_counts.x hr (by decide) (se_var (i := 1)) (sa_cons (se_var (i := 2)) (sa_cons (se_var (i := 5)) (sa_cons (se_var (i := 4)) sa_nil))))) (blkOk_by (by kernel_rfl))) sa_nil)))) (sss_one (t_kept_by_2 B S_tupled S_Lean_counts cdv A outer s H E hr)) sss_nil)
theorem t_kept_by_4 {f : Addr} (B : Bt mg) (S_tupled : FS P w K mg base cl 5 "tupled" 1 (m_tupled 4)) (S_Lean_counts : FM P w K mg base cl 2 0 "counts" 4 m_Lean_counts) (cdv : Value) (A : Around) (outer : List Env) (s : Shared) (H : Hp) (E : XK) (hr : Room 5 (A.deeper (envOfC "kept_by" (defScope s_kept_by) s.heap.objs.size f cdv))) :
    SS (cxOf CX0 P w K mg base ["values", "lean", "rule", "found", "value", "own"] "kept_by" (defScope s_kept_by) f cdv A outer s H E).nox cl ((defBody s_kept_by).getD 1 (.Pass ⟨0, 0, 0, 0⟩)) m_kept_by_4 := by
  exact (ss_for (si_seq (se_call S_tupled.x hr (by decide) (sa_cons (se_var (i := 0)) sa_nil))) (sg_name (i := 4) (vs := [4]) sc_kept_by.nd) (sss_one (t_kept_by_3 B S_tupled S_Lean_counts cdv A outer s H E hr)))
theorem t_kept_by_5 {f : Addr} (B : Bt mg) (S_tupled : FS P w K mg base cl 5 "tupled" 1 (m_tupled 4)) (S_Lean_counts : FM P w K mg base cl 2 0 "counts" 4 m_Lean_counts) (cdv : Value) (A : Around) (outer : List Env) (s : Shared) (H : Hp) (E : XK) (hr : Room 5 (A.deeper (envOfC "kept_by" (defScope s_kept_by) s.heap.objs.size f cdv))) :
    SS (cxOf CX0 P w K mg base ["values", "lean", "rule", "found", "value", "own"] "kept_by" (defScope s_kept_by) f cdv A outer s H E).nox cl ((defBody s_kept_by).getD 2 (.Pass ⟨0, 0, 0, 0⟩)) m_kept_by_5 := by
  exact (ss_ret (se_var (i := 3)))
theorem ok_kept_by {f : Addr} {fd : FuncData} (F : Fun K "kept_by" "kept_by" s_kept_by f fd) (B : Bt mg) (S_tupled : FS P w K mg base cl 5 "tupled" 1 (m_tupled 4)) (S_Lean_counts : FM P w K mg base cl 2 0 "counts" 4 m_Lean_counts) : FnOk P w K mg base CX0 6 f fd ["values", "lean", "rule"] (spM K cl 3 m_kept_by) := by
  refine def_ok (N := ["values", "lean", "rule", "found", "value", "own"]) (n := 3) F sc_kept_by rfl (fun cdv A outer s H E hr => ?_)
  exact (sss_cons (t_kept_by_0 B S_tupled S_Lean_counts cdv A outer s H E hr)
    (sss_cons (t_kept_by_4 B S_tupled S_Lean_counts cdv A outer s H E hr)
    (sss_one (t_kept_by_5 B S_tupled S_Lean_counts cdv A outer s H E hr))))
theorem fs_kept_by {f : Addr} {fd : FuncData} (F : Fun K "kept_by" "kept_by" s_kept_by f fd) (hm : mg "kept_by" = some (.ref f)) (B : Bt mg) (S_tupled : FS P w K mg base cl 5 "tupled" 1 (m_tupled 4)) (S_Lean_counts : FM P w K mg base cl 2 0 "counts" 4 m_Lean_counts) : FS P w K mg base cl 6 "kept_by" 3 m_kept_by :=
  ⟨⟨f, fd, ["values", "lean", "rule"], ok_kept_by F B S_tupled S_Lean_counts, hm, F.kp, F.binds (ps := ["values", "lean", "rule"]) fun _ _ _ _ _ _ us hl => match us, hl with | [_, _, _], _ => rfl, rfl⟩, fun rs μ z h => mDef_ar rs μ z h⟩
theorem fk_kept_by_0 {f : Addr} {fd : FuncData} (F : Fun K "kept_by" "kept_by" s_kept_by f fd) (hm : mg "kept_by" = some (.ref f)) (B : Bt mg) (S_tupled : FS P w K mg base cl 5 "tupled" 1 (m_tupled 4)) (S_Lean_counts : FM P w K mg base cl 2 0 "counts" 4 m_Lean_counts) : FK P w K mg base cl 6 "kept_by" 3 m_kept_by 0 ["rule", "lean", "values"] [2, 1, 0] :=
  ⟨⟨f, fd, ["values", "lean", "rule"], ok_kept_by F B S_tupled S_Lean_counts, hm, F.kp, kbn_of fun s us ws _ h1 h2 => by
    obtain ⟨oc, od, kV, doc, pm, an, cdv, ct, osl, rfl, lk, hcd⟩ := F.ex
    exact match us, h1, ws, h2 with | [], _, [_, _, _], _ => .of_eq rfl⟩, fun rs μ z h => mDef_ar rs μ z h⟩
end
end NS
set_option Elab.async false
set_option linter.all false
set_option maxRecDepth 100000
set_option maxHeartbeats 4000000
namespace NS
open PySem PySem.Spec PyProof.Rows L2 DL
section
variable {P : Program} {w : World} {K : PySem.W.Frag} {mg : Str → Option Value} {base : Heap} {cl : Nat → Addr}
theorem t_law_same_0 {f : Addr} (B : Bt mg) {j : Nat} (S_law_same : FS P w K mg base cl (0 + j + 1) "_law_same" 2 (m_law_same j)) (cdv : Value) (A : Around) (outer : List Env) (s : Shared) (H : Hp) (E : XK) (hr : Room (0 + j + 1) (A.deeper (envOfC "_law_same" (defScope s_law_same) s.heap.objs.size f cdv))) :
    SS (cxOf CX0 P w K mg base ["_law_got", "_law_due", "_law_mine", "_law_its"] "_law_same" (defScope s_law_same) f cdv A outer s H E).nox cl ((sub1 ((sub1 ((defBody s_law_same).getD 0 (.Pass ⟨0, 0, 0, 0⟩))).getD 0 (.Pass ⟨0, 0, 0, 0⟩))).getD 0 (.Pass ⟨0, 0, 0, 0⟩)) (m_law_same_0 (m_law_same j)) := by
  exact (ss_ret se_bl)
theorem t_law_same_1 {f : Addr} (B : Bt mg) {j : Nat} (S_law_same : FS P w K mg base cl (0 + j + 1) "_law_same" 2 (m_law_same j)) (cdv : Value) (A : Around) (outer : List Env) (s : Shared) (H : Hp) (E : XK) (hr : Room (0 + j + 1) (A.deeper (envOfC "_law_same" (defScope s_law_same) s.heap.objs.size f cdv))) :
    SS (cxOf CX0 P w K mg base ["_law_got", "_law_due", "_law_mine", "_law_its"] "_law_same" (defScope s_law_same) f cdv A outer s H E).nox cl ((sub1 ((defBody s_law_same).getD 0 (.Pass ⟨0, 0, 0, 0⟩))).getD 0 (.Pass ⟨0, 0, 0, 0⟩)) (m_law_same_1 (m_law_same j)) := by
  exact (ss_if (st_w (sw_or (st_ne hr.units (se_isi B.isinstance B.list (by decide) boot_list' (se_var (i := 0))) (se_isi B.isinstance B.list (by decide) boot_list' (se_var (i := 1)))) (sw_or1 (st_ne hr.units (se_isi B.isinstance B.tuple (by decide) boot_tuple' (se_var (i := 0))) (se_isi B.isinstance B.tuple (by decide) boot_tuple' (se_var (i := 1))))))) (sss_one (t_law_same_0 B S_law_same cdv A outer s H E hr)) sss_nil)
theorem t_law_same_3 {f : Addr} (B : Bt mg) {j : Nat} (S_law_same : FS P w K mg base cl (0 + j + 1) "_law_same" 2 (m_law_same j)) (cdv : Value) (A : Around) (outer : List Env) (s : Shared) (H : Hp) (E : XK) (hr : Room (0 + j + 1) (A.deeper (envOfC "_law_same" (defScope s_law_same) s.heap.objs.size f cdv))) :
    SS (cxOf CX0 P w K mg base ["_law_got", "_law_due", "_law_mine", "_law_its"] "_law_same" (defScope s_law_same) f cdv A outer s H E).nox cl ((sub1 ((defBody s_law_same).getD 0 (.Pass ⟨0, 0, 0, 0⟩))).getD 1 (.Pass ⟨0, 0, 0, 0⟩)) (m_law_same_3 (m_law_same j)) := by
  exact (ss_ret (se_and (se_eq hr.units (se_len B.len (sa_cons (se_var (i := 0)) sa_nil)) (se_len B.len (sa_cons (se_var (i := 1)) sa_nil))) (se_one (se_all B.all (sa_cons (se_lc (own := [("_law_mine", 2), ("_law_its", 3)]) sc_law_same.nd (si_zip B.zip (sa_cons (se_var (i := 0)) (sa_cons (se_var (i := 1)) sa_nil))) (sem_pair (by decide) (by decide)) (fun _ _ _ _ _ => (sg_pair (cl := cl) (vs := [2, 3]) (i := 2) (j := 3) sc_law_same.nd).1) (fun _ _ _ _ _ => stt_nil) (fun _ _ _ _ _ => (se_call S_law_same.x hr (Nat.le_refl _) (sa_cons (se_var (i := 2)) (sa_cons (se_var (i := 3)) sa_nil)))) (blkOk_by (by kernel_rfl))) sa_nil)))))
theorem t_law_same_4 {f : Addr} (B : Bt mg) {j : Nat} (S_law_same : FS P w K mg base cl (0 + j + 1) "_law_same" 2 (m_law_same j)) (cdv : Value) (A : Around) (outer : List Env) (s : Shared) (H : Hp) (E : XK) (hr : Room (0 + j + 1) (A.deeper (envOfC "_law_same" (defScope s_law_same) s.heap.objs.size f cdv))) :
    SS (cxOf CX0 P w K mg base ["_law_got", "_law_due", "_law_mine", "_law_its"] "_law_same" (defScope s_law_same) f cdv A outer s H E).nox cl ((defBody s_law_same).getD 0 (.Pass ⟨0, 0, 0, 0⟩)) (m_law_same_4 (m_law_same j)) := by
  exact (ss_if (st_val (se_isi2 B.isinstance B.list B.tuple (by decide) (by decide) boot_list' boot_tuple' (se_var (i := 1)))) (sss_cons (t_law_same_1 B S_law_same cdv A outer s H E hr)
    (sss_one (t_law_same_3 B S_law_same cdv A outer s H E hr))) sss_nil)
theorem t_law_same_5 {f : Addr} (B : Bt mg) {j : Nat} (S_law_same : FS P w K mg base cl (0 + j + 1) "_law_same" 2 (m_law_same j)) (cdv : Value) (A : Around) (outer : List Env) (s : Shared) (H : Hp) (E : XK) (hr : Room (0 + j + 1) (A.deeper (envOfC "_law_same" (defScope s_law_same) s.heap.objs.size f cdv))) :
    SS (cxOf CX0 P w K mg base ["_law_got", "_law_due", "_law_mine", "_law_its"] "_law_same" (defScope s_law_same) f cdv A outer s H E).nox cl ((sub1 ((defBody s_law_same).getD 1 (.Pass ⟨0, 0, 0, 0⟩))).getD 0 (.Pass ⟨0, 0, 0, 0⟩)) (m_law_same_5 (m_law_same j)) := by
  exact (ss_ret (se_and (se_eq hr.units (se_var (i := 0)) (se_var (i := 1))) (se_and (se_eq hr.units (se_isi B.isinstance B.bool (by decide) boot_bool' (se_var (i := 0))) (se_isi B.isinstance B.bool (by decide) boot_bool' (se_var (i := 1)))) (se_one (se_eq hr.units (se_isN (se_var (i := 0)) se_non) (se_isN (se_var (i := 1)) se_non))))))
theorem t_law_same_6 {f : Addr} (B : Bt mg) {j : Nat} (S_law_same : FS P w K mg base cl (0 + j + 1) "_law_same" 2 (m_law_same j)) (cdv : Value) (A : Around) (outer : List Env) (s : Shared) (H : Hp) (E : XK) (hr : Room (0 + j + 1) (A.deeper (envOfC "_law_same" (defScope s_law_same) s.heap.objs.size f cdv))) :
    SS (cxOf CX0 P w K mg base ["_law_got", "_law_due", "_law_mine", "_law_its"] "_law_same" (defScope s_law_same) f cdv A outer s H E).nox cl ((defBody s_law_same).getD 1 (.Pass ⟨0, 0, 0, 0⟩)) (m_law_same_6 (m_law_same j)) := by
  exact (ss_if (st_w (sw_or (st_isN (se_var (i := 1)) se_non) (sw_or1 (st_val (se_isi2 B.isinstance B.bool B.str (by decide) (by decide) boot_bool' boot_str' (se_var (i := 1))))))) (sss_one (t_law_same_5 B S_law_same cdv A outer s H E hr)) sss_nil)
theorem t_law_same_7 {f : Addr} (B : Bt mg) {j : Nat} (S_law_same : FS P w K mg base cl (0 + j + 1) "_law_same" 2 (m_law_same j)) (cdv : Value) (A : Around) (outer : List Env) (s : Shared) (H : Hp) (E : XK) (hr : Room (0 + j + 1) (A.deeper (envOfC "_law_same" (defScope s_law_same) s.heap.objs.size f cdv))) :
    SS (cxOf CX0 P w K mg base ["_law_got", "_law_due", "_law_mine", "_law_its"] "_law_same" (defScope s_law_same) f cdv A outer s H E).nox cl ((defBody s_law_same).getD 2 (.Pass ⟨0, 0, 0, 0⟩)) (m_law_same_7 (m_law_same j)) := by
  exact (ss_ret (se_and (se_isi B.isinstance B.int (by decide) boot_int' (se_var (i := 0))) (se_and (se_not (se_isi B.isinstance B.bool (by decide) boot_bool' (se_var (i := 0)))) (se_one (se_eq hr.units (se_var (i := 0)) (se_var (i := 1)))))))
theorem ok_law_same {f : Addr} {fd : FuncData} (F : Fun K "_law_same" "_law_same" s_law_same f fd) (B : Bt mg) (hm : mg "_law_same" = some (.ref f)) (bn : Binds K fd ["_law_got", "_law_due"] []) : ∀ j : Nat, FnOk P w K mg base CX0 (0 + j + 1) f fd ["_law_got", "_law_due"] (spM K cl 2 (m_law_same j))
  | 0 => def_zero
  | j + 1 => by
    have S_law_same : FS P w K mg base cl (0 + j + 1) "_law_same" 2 (m_law_same j) := ⟨⟨f, fd, ["_law_got", "_law_due"], ok_law_same F B hm bn j, hm, F.kp, bn, rfl⟩, fun rs μ z h => by
      cases j with
      | zero => cases h
      | succ j => exact mDef_ar rs μ z h⟩
    refine def_ok (N := ["_law_got", "_law_due", "_law_mine", "_law_its"]) (n := 2) F sc_law_same rfl (fun cdv A outer s H E hr => ?_)
    exact (sss_cons (t_law_same_4 B S_law_same cdv A outer s H E hr)
    (sss_cons (t_law_same_6 B S_law_same cdv A outer s H E hr)
    (sss_one (t_law_same_7 B S_law_same cdv A outer s H E hr))))
theorem fs_law_same {f : Addr} {fd : FuncData} (F : Fun K "_law_same" "_law_same" s_law_same f fd) (hm : mg "_law_same" = some (.ref f)) (B : Bt mg) : FS P w K mg base cl 6 "_law_same" 2 (m_law_same 5) :=
  ⟨⟨f, fd, ["_law_got", "_law_due"], ok_law_same F B hm (F.binds (ps := ["_law_got", "_law_due"]) fun _ _ _ _ _ _ us hl => match us, hl with | [_, _], _ => rfl) 5, hm, F.kp, F.binds (ps := ["_law_got", "_law_due"]) fun _ _ _ _ _ _ us hl => match us, hl with | [_, _], _ => rfl, rfl⟩, fun rs μ z h => mDef_ar rs μ z h⟩
end
end NS
set_option Elab.async false
set_option linter.all false
set_option maxRecDepth 100000
set_option maxHeartbeats 4000000
namespace NS
open PySem PySem.Spec PyProof.Rows L2 DL
section
variable {P : Program} {w : World} {K : PySem.W.Frag} {mg : Str → Option Value} {base : Heap} {cl : Nat → Addr}
theorem t_is_rule_0 {f : Addr} (B : Bt mg) (G_RULES : ∃ a : Addr, mg "RULES" = some (.ref a) ∧ ∀ F, Rep K cl F (.ref a) (.tup [.str "kept", .str "new", .str "both", .str "either"])) (cdv : Value) (A : Around) (outer : List Env) (s : Shared) (H : Hp) (E : XK) (hr : Room 0 (A.deeper (envOfC "is_rule" (defScope s_is_rule) s.heap.objs.size f cdv))) :
    SS (cxOf CX0 P w K mg base ["thing"] "is_rule" (defScope s_is_rule) f cdv A outer s H E).nox cl ((defBody s_is_rule).getD 0 (.Pass ⟨0, 0, 0, 0⟩)) m_is_rule_0 := by
  exact (ss_ret (se_and (se_isi B.isinstance B.str (by decide) boot_str' (se_var (i := 0))) (se_one (se_in (se_var (i := 0)) (se_conT G_RULES)))))
theorem ok_is_rule {f : Addr} {fd : FuncData} (F : Fun K "is_rule" "is_rule" s_is_rule f fd) (B : Bt mg) (G_RULES : ∃ a : Addr, mg "RULES" = some (.ref a) ∧ ∀ F, Rep K cl F (.ref a) (.tup [.str "kept", .str "new", .str "both", .str "either"])) : FnOk P w K mg base CX0 1 f fd ["thing"] (spM K cl 1 m_is_rule) := by
  refine def_ok (N := ["thing"]) (n := 1) F sc_is_rule rfl (fun cdv A outer s H E hr => ?_)
  exact (sss_one (t_is_rule_0 B G_RULES cdv A outer s H E hr))
theorem fs_is_rule {f : Addr} {fd : FuncData} (F : Fun K "is_rule" "is_rule" s_is_rule f fd) (hm : mg "is_rule" = some (.ref f)) (B : Bt mg) (G_RULES : ∃ a : Addr, mg "RULES" = some (.ref a) ∧ ∀ F, Rep K cl F (.ref a) (.tup [.str "kept", .str "new", .str "both", .str "either"])) : FS P w K mg base cl 1 "is_rule" 1 m_is_rule :=
  ⟨⟨f, fd, ["thing"], ok_is_rule F B G_RULES, hm, F.kp, F.binds (ps := ["thing"]) fun _ _ _ _ _ _ us hl => match us, hl with | [_], _ => rfl, rfl⟩, fun rs μ z h => mDef_ar rs μ z h⟩
theorem fk_is_rule_0 {f : Addr} {fd : FuncData} (F : Fun K "is_rule" "is_rule" s_is_rule f fd) (hm : mg "is_rule" = some (.ref f)) (B : Bt mg) (G_RULES : ∃ a : Addr, mg "RULES" = some (.ref a) ∧ ∀ F, Rep K cl F (.ref a) (.tup [.str "kept", .str "new", .str "both", .str "either"])) : FK P w K mg base cl 1 "is_rule" 1 m_is_rule 0 ["thing"] [0] :=
  ⟨⟨f, fd, ["thing"], ok_is_rule F B G_RULES, hm, F.kp, kbn_of fun s us ws _ h1 h2 => by
    obtain ⟨oc, od, kV, doc, pm, an, cdv, ct, osl, rfl, lk, hcd⟩ := F.ex
    exact match us, h1, ws, h2 with | [], _, [_], _ => .of_eq rfl⟩, fun rs μ z h => mDef_ar rs μ z h⟩
end
end NS
set_option Elab.async false
set_option linter.all false
set_option maxRecDepth 100000
set_option maxHeartbeats 4000000
namespace NS
open PySem PySem.Spec PyProof.Rows L2 DL
section
variable {P : Program} {w : World} {K : PySem.W.Frag} {mg : Str → Option Value} {base : Heap} {cl : Nat → Addr}
theorem t_law_hand_right_0 {f : Addr} (B : Bt mg) (S_Lean_part : FT P w K mg base cl 3 "Lean" "part" 2 m_Lean_part) (S_kept_by : FS P w K mg base cl 6 "kept_by" 3 m_kept_by) (S_law_same : FS P w K mg base cl 6 "_law_same" 2 (m_law_same 5)) (S_is_rule : FS P w K mg base cl 1 "is_rule" 1 m_is_rule) (K_is_rule_0 : FK P w K mg base cl 1 "is_rule" 1 m_is_rule 0 ["thing"] [0]) (cdv : Value) (A : Around) (outer : List Env) (s : Shared) (H : Hp) (E : XK) (hr : Room 6 (A.deeper (envOfC "_law_hand_right" (defScope s_law_hand_right) s.heap.objs.size f cdv))) :
    SS (cxOf CX0 P w K mg base ["_law_half", "_law_words", "_law_got", "_law_word", "_law_due", "_law_odd", "_law_own"] "_law_hand_right" (defScope s_law_hand_right) f cdv A outer s H E).nox cl ((defBody s_law_hand_right).getD 0 (.Pass ⟨0, 0, 0, 0⟩)) m_law_hand_right_0 := by
  exact (ss_asg (se_tup (sa_cons (se_static S_Lean_part.x hr (by decide) (sa_cons se_int (sa_cons se_int sa_nil))) (sa_cons (se_tup (sa_cons se_str (sa_cons se_str (sa_cons se_str (sa_cons se_str sa_nil))))) sa_nil))) (sg_pair (i := 0) (j := 1) (vs := [0, 1]) sc_law_hand_right.nd))
theorem t_law_hand_right_3 {f : Addr} (B : Bt mg) (S_Lean_part : FT P w K mg base cl 3 "Lean" "part" 2 m_Lean_part) (S_kept_by : FS P w K mg base cl 6 "kept_by" 3 m_kept_by) (S_law_same : FS P w K mg base cl 6 "_law_same" 2 (m_law_same 5)) (S_is_rule : FS P w K mg base cl 1 "is_rule" 1 m_is_rule) (K_is_rule_0 : FK P w K mg base cl 1 "is_rule" 1 m_is_rule 0 ["thing"] [0]) (cdv : Value) (A : Around) (outer : List Env) (s : Shared) (H : Hp) (E : XK) (hr : Room 6 (A.deeper (envOfC "_law_hand_right" (defScope s_law_hand_right) s.heap.objs.size f cdv))) :
    SS (cxOf CX0 P w K mg base ["_law_half", "_law_words", "_law_got", "_law_word", "_law_due", "_law_odd", "_law_own"] "_law_hand_right" (defScope s_law_hand_right) f cdv A outer s H E).nox cl ((defBody s_law_hand_right).getD 1 (.Pass ⟨0, 0, 0, 0⟩)) m_law_hand_right_3 := by
  exact (ss_setC (i := 2) sc_law_hand_right.nd (se_lst (sa_cons (se_lc (own := [("_law_word", 3)]) sc_law_hand_right.nd (si_seq (se_var (i := 1))) (sem_name (by decide)) (fun _ _ _ _ _ => (sg_name (cl := cl) (vs := [3]) (i := 3) sc_law_hand_right.nd).1) (fun _ _ _ _ _ => stt_nil) (fun _ _ _ _ _ => (se_call S_kept_by.x hr (by decide) (sa_cons (se_tup (sa_cons se_int (sa_cons se_int sa_nil))) (sa_cons (se_var (i := 0)) (sa_cons (se_var (i := 3)) sa_nil))))) (blkOk_by (by kernel_rfl))) (sa_cons (se_lc (own := [("_law_word", 3)]) sc_law_hand_right.nd (si_seq (se_var (i := 1))) (sem_name (by decide)) (fun _ _ _ _ _ => (sg_name (cl := cl) (vs := [3]) (i := 3) sc_law_hand_right.nd).1) (fun _ _ _ _ _ => stt_nil) (fun _ _ _ _ _ => (se_call S_kept_by.x hr (by decide) (sa_cons (se_tup (sa_cons se_int (sa_cons se_int sa_nil))) (sa_cons (se_var (i := 0)) (sa_cons (se_var (i := 3)) sa_nil))))) (blkOk_by (by kernel_rfl))) sa_nil))))
theorem t_law_hand_right_4 {f : Addr} (B : Bt mg) (S_Lean_part : FT P w K mg base cl 3 "Lean" "part" 2 m_Lean_part) (S_kept_by : FS P w K mg base cl 6 "kept_by" 3 m_kept_by) (S_law_same : FS P w K mg base cl 6 "_law_same" 2 (m_law_same 5)) (S_is_rule : FS P w K mg base cl 1 "is_rule" 1 m_is_rule) (K_is_rule_0 : FK P w K mg base cl 1 "is_rule" 1 m_is_rule 0 ["thing"] [0]) (cdv : Value) (A : Around) (outer : List Env) (s : Shared) (H : Hp) (E : XK) (hr : Room 6 (A.deeper (envOfC "_law_hand_right" (defScope s_law_hand_right) s.heap.objs.size f cdv))) :
    SS (cxOf CX0 P w K mg base ["_law_half", "_law_words", "_law_got", "_law_word", "_law_due", "_law_odd", "_law_own"] "_law_hand_right" (defScope s_law_hand_right) f cdv A outer s H E).nox cl ((defBody s_law_hand_right).getD 2 (.Pass ⟨0, 0, 0, 0⟩)) m_law_hand_right_4 := by
  exact (ss_setC (i := 4) sc_law_hand_right.nd (se_lst (sa_cons (se_lst (sa_cons (se_lst (sa_cons se_int (sa_cons se_int sa_nil))) (sa_cons (se_lst (sa_cons se_int sa_nil)) (sa_cons (se_lst (sa_cons se_int (sa_cons se_int sa_nil))) (sa_cons (se_lst (sa_cons se_int sa_nil)) sa_nil))))) (sa_cons (se_lst (sa_cons (se_lst (sa_cons se_int sa_nil)) (sa_cons (se_lst (sa_cons se_int (sa_cons se_int sa_nil))) (sa_cons (se_lst (sa_cons se_int (sa_cons se_int sa_nil))) (sa_cons (se_lst (sa_cons se_int sa_nil)) sa_nil))))) sa_nil))))
theorem t_law_hand_right_6 {f : Addr} (B : Bt mg) (S_Lean_part : FT P w K mg base cl 3 "Lean" "part" 2 m_Lean_part) (S_kept_by : FS P w K mg base cl 6 "kept_by" 3 m_kept_by) (S_law_same : FS P w K mg base cl 6 "_law_same" 2 (m_law_same 5)) (S_is_rule : FS P w K mg base cl 1 "is_rule" 1 m_is_rule) (K_is_rule_0 : FK P w K mg base cl 1 "is_rule" 1 m_is_rule 0 ["thing"] [0]) (cdv : Value) (A : Around) (outer : List Env) (s : Shared) (H : Hp) (E : XK) (hr : Room 6 (A.deeper (envOfC "_law_hand_right" (defScope s_law_hand_right) s.heap.objs.size f cdv))) :
    SS (cxOf CX0 P w K mg base ["_law_half", "_law_words", "_law_got", "_law_word", "_law_due", "_law_odd", "_law_own"] "_law_hand_right" (defScope s_law_hand_right) f cdv A outer s H E).nox cl ((defBody s_law_hand_right).getD 3 (.Pass ⟨0, 0, 0, 0⟩)) m_law_hand_right_6 := by
  exact (ss_expr (se_append (se_var (i := 2)) (sa_cons (se_lc (own := [("_law_word", 3)]) sc_law_hand_right.nd (si_seq (se_var (i := 1))) (sem_name (by decide)) (fun _ _ _ _ _ => (sg_name (cl := cl) (vs := [3]) (i := 3) sc_law_hand_right.nd).1) (fun _ _ _ _ _ => stt_nil) (fun _ _ _ _ _ => (se_call S_kept_by.x hr (by decide) (sa_cons (se_tup (sa_cons se_int (sa_cons se_int (sa_cons se_int (sa_cons (se_neg se_int) sa_nil))))) (sa_cons (se_var (i := 0)) (sa_cons (se_var (i := 3)) sa_nil))))) (blkOk_by (by kernel_rfl))) sa_nil)))
theorem t_law_hand_right_7 {f : Addr} (B : Bt mg) (S_Lean_part : FT P w K mg base cl 3 "Lean" "part" 2 m_Lean_part) (S_kept_by : FS P w K mg base cl 6 "kept_by" 3 m_kept_by) (S_law_same : FS P w K mg base cl 6 "_law_same" 2 (m_law_same 5)) (S_is_rule : FS P w K mg base cl 1 "is_rule" 1 m_is_rule) (K_is_rule_0 : FK P w K mg base cl 1 "is_rule" 1 m_is_rule 0 ["thing"] [0]) (cdv : Value) (A : Around) (outer : List Env) (s : Shared) (H : Hp) (E : XK) (hr : Room 6 (A.deeper (envOfC "_law_hand_right" (defScope s_law_hand_right) s.heap.objs.size f cdv))) :
    SS (cxOf CX0 P w K mg base ["_law_half", "_law_words", "_law_got", "_law_word", "_law_due", "_law_odd", "_law_own"] "_law_hand_right" (defScope s_law_hand_right) f cdv A outer s H E).nox cl ((defBody s_law_hand_right).getD 4 (.Pass ⟨0, 0, 0, 0⟩)) m_law_hand_right_7 := by
  exact (ss_expr (se_append (se_var (i := 4)) (sa_cons (se_mul (se_lst (sa_cons (se_lst (sa_cons se_int (sa_cons (se_neg se_int) sa_nil))) sa_nil)) se_int) sa_nil)))
theorem t_law_hand_right_9 {f : Addr} (B : Bt mg) (S_Lean_part : FT P w K mg base cl 3 "Lean" "part" 2 m_Lean_part) (S_kept_by : FS P w K mg base cl 6 "kept_by" 3 m_kept_by) (S_law_same : FS P w K mg base cl 6 "_law_same" 2 (m_law_same 5)) (S_is_rule : FS P w K mg base cl 1 "is_rule" 1 m_is_rule) (K_is_rule_0 : FK P w K mg base cl 1 "is_rule" 1 m_is_rule 0 ["thing"] [0]) (cdv : Value) (A : Around) (outer : List Env) (s : Shared) (H : Hp) (E : XK) (hr : Room 6 (A.deeper (envOfC "_law_hand_right" (defScope s_law_hand_right) s.heap.objs.size f cdv))) :
    SS (cxOf CX0 P w K mg base ["_law_half", "_law_words", "_law_got", "_law_word", "_law_due", "_law_odd", "_law_own"] "_law_hand_right" (defScope s_law_hand_right) f cdv A outer s H E).nox cl ((defBody s_law_hand_right).getD 5 (.Pass ⟨0, 0, 0, 0⟩)) m_law_hand_right_9 := by
  exact (ss_expr (se_append (se_var (i := 2)) (sa_cons (se_lc (own := [("_law_word", 3)]) sc_law_hand_right.nd (si_seq (se_var (i := 1))) (sem_name (by decide)) (fun _ _ _ _ _ => (sg_name (cl := cl) (vs := [3]) (i := 3) sc_law_hand_right.nd).1) (fun _ _ _ _ _ => stt_nil) (fun _ _ _ _ _ => (se_call S_kept_by.x hr (by decide) (sa_cons (se_tup (sa_cons se_int (sa_cons se_int (sa_cons se_int (sa_cons se_int sa_nil))))) (sa_cons (se_var (i := 0)) (sa_cons (se_var (i := 3)) sa_nil))))) (blkOk_by (by kernel_rfl))) sa_nil)))
theorem t_law_hand_right_10 {f : Addr} (B : Bt mg) (S_Lean_part : FT P w K mg base cl 3 "Lean" "part" 2 m_Lean_part) (S_kept_by : FS P w K mg base cl 6 "kept_by" 3 m_kept_by) (S_law_same : FS P w K mg base cl 6 "_law_same" 2 (m_law_same 5)) (S_is_rule : FS P w K mg base cl 1 "is_rule" 1 m_is_rule) (K_is_rule_0 : FK P w K mg base cl 1 "is_rule" 1 m_is_rule 0 ["thing"] [0]) (cdv : Value) (A : Around) (outer : List Env) (s : Shared) (H : Hp) (E : XK) (hr : Room 6 (A.deeper (envOfC "_law_hand_right" (defScope s_law_hand_right) s.heap.objs.size f cdv))) :
    SS (cxOf CX0 P w K mg base ["_law_half", "_law_words", "_law_got", "_law_word", "_law_due", "_law_odd", "_law_own"] "_law_hand_right" (defScope s_law_hand_right) f cdv A outer s H E).nox cl ((defBody s_law_hand_right).getD 6 (.Pass ⟨0, 0, 0, 0⟩)) m_law_hand_right_10 := by
  exact (ss_expr (se_append (se_var (i := 4)) (sa_cons (se_lst (sa_cons (se_lst (sa_cons se_int (sa_cons se_int sa_nil))) (sa_cons (se_lst (sa_cons se_int (sa_cons se_int (sa_cons se_int sa_nil)))) (sa_cons (se_lst (sa_cons se_int (sa_cons se_int (sa_cons se_int sa_nil)))) (sa_cons (se_lst (sa_cons se_int (sa_cons se_int sa_nil))) sa_nil))))) sa_nil)))
theorem t_law_hand_right_12 {f : Addr} (B : Bt mg) (S_Lean_part : FT P w K mg base cl 3 "Lean" "part" 2 m_Lean_part) (S_kept_by : FS P w K mg base cl 6 "kept_by" 3 m_kept_by) (S_law_same : FS P w K mg base cl 6 "_law_same" 2 (m_law_same 5)) (S_is_rule : FS P w K mg base cl 1 "is_rule" 1 m_is_rule) (K_is_rule_0 : FK P w K mg base cl 1 "is_rule" 1 m_is_rule 0 ["thing"] [0]) (cdv : Value) (A : Around) (outer : List Env) (s : Shared) (H : Hp) (E : XK) (hr : Room 6 (A.deeper (envOfC "_law_hand_right" (defScope s_law_hand_right) s.heap.objs.size f cdv))) :
    SS (cxOf CX0 P w K mg base ["_law_half", "_law_words", "_law_got", "_law_word", "_law_due", "_law_odd", "_law_own"] "_law_hand_right" (defScope s_law_hand_right) f cdv A outer s H E).nox cl ((defBody s_law_hand_right).getD 7 (.Pass ⟨0, 0, 0, 0⟩)) m_law_hand_right_12 := by
  exact (ss_expr (se_append (se_var (i := 2)) (sa_cons (se_lc (own := [("_law_word", 3)]) sc_law_hand_right.nd (si_seq (se_var (i := 1))) (sem_name (by decide)) (fun _ _ _ _ _ => (sg_name (cl := cl) (vs := [3]) (i := 3) sc_law_hand_right.nd).1) (fun _ _ _ _ _ => stt_nil) (fun _ _ _ _ _ => (se_call S_kept_by.x hr (by decide) (sa_cons (se_tup (sa_cons se_int (sa_cons se_int sa_nil))) (sa_cons (se_static S_Lean_part.x hr (by decide) (sa_cons se_int (sa_cons se_int sa_nil))) (sa_cons (se_var (i := 3)) sa_nil))))) (blkOk_by (by kernel_rfl))) sa_nil)))
theorem t_law_hand_right_13 {f : Addr} (B : Bt mg) (S_Lean_part : FT P w K mg base cl 3 "Lean" "part" 2 m_Lean_part) (S_kept_by : FS P w K mg base cl 6 "kept_by" 3 m_kept_by) (S_law_same : FS P w K mg base cl 6 "_law_same" 2 (m_law_same 5)) (S_is_rule : FS P w K mg base cl 1 "is_rule" 1 m_is_rule) (K_is_rule_0 : FK P w K mg base cl 1 "is_rule" 1 m_is_rule 0 ["thing"] [0]) (cdv : Value) (A : Around) (outer : List Env) (s : Shared) (H : Hp) (E : XK) (hr : Room 6 (A.deeper (envOfC "_law_hand_right" (defScope s_law_hand_right) s.heap.objs.size f cdv))) :
    SS (cxOf CX0 P w K mg base ["_law_half", "_law_words", "_law_got", "_law_word", "_law_due", "_law_odd", "_law_own"] "_law_hand_right" (defScope s_law_hand_right) f cdv A outer s H E).nox cl ((defBody s_law_hand_right).getD 8 (.Pass ⟨0, 0, 0, 0⟩)) m_law_hand_right_13 := by
  exact (ss_expr (se_append (se_var (i := 4)) (sa_cons (se_lst (sa_cons (se_lst (sa_cons se_int sa_nil)) (sa_cons (se_lst (sa_cons se_int (sa_cons se_int sa_nil))) (sa_cons (se_lst (sa_cons se_int (sa_cons se_int sa_nil))) (sa_cons (se_lst (sa_cons se_int sa_nil)) sa_nil))))) sa_nil)))
theorem t_law_hand_right_14 {f : Addr} (B : Bt mg) (S_Lean_part : FT P w K mg base cl 3 "Lean" "part" 2 m_Lean_part) (S_kept_by : FS P w K mg base cl 6 "kept_by" 3 m_kept_by) (S_law_same : FS P w K mg base cl 6 "_law_same" 2 (m_law_same 5)) (S_is_rule : FS P w K mg base cl 1 "is_rule" 1 m_is_rule) (K_is_rule_0 : FK P w K mg base cl 1 "is_rule" 1 m_is_rule 0 ["thing"] [0]) (cdv : Value) (A : Around) (outer : List Env) (s : Shared) (H : Hp) (E : XK) (hr : Room 6 (A.deeper (envOfC "_law_hand_right" (defScope s_law_hand_right) s.heap.objs.size f cdv))) :
    SS (cxOf CX0 P w K mg base ["_law_half", "_law_words", "_law_got", "_law_word", "_law_due", "_law_odd", "_law_own"] "_law_hand_right" (defScope s_law_hand_right) f cdv A outer s H E).nox cl ((sub1 ((defBody s_law_hand_right).getD 9 (.Pass ⟨0, 0, 0, 0⟩))).getD 0 (.Pass ⟨0, 0, 0, 0⟩)) m_law_hand_right_14 := by
  exact (ss_ret se_bl)
theorem t_law_hand_right_15 {f : Addr} (B : Bt mg) (S_Lean_part : FT P w K mg base cl 3 "Lean" "part" 2 m_Lean_part) (S_kept_by : FS P w K mg base cl 6 "kept_by" 3 m_kept_by) (S_law_same : FS P w K mg base cl 6 "_law_same" 2 (m_law_same 5)) (S_is_rule : FS P w K mg base cl 1 "is_rule" 1 m_is_rule) (K_is_rule_0 : FK P w K mg base cl 1 "is_rule" 1 m_is_rule 0 ["thing"] [0]) (cdv : Value) (A : Around) (outer : List Env) (s : Shared) (H : Hp) (E : XK) (hr : Room 6 (A.deeper (envOfC "_law_hand_right" (defScope s_law_hand_right) s.heap.objs.size f cdv))) :
    SS (cxOf CX0 P w K mg base ["_law_half", "_law_words", "_law_got", "_law_word", "_law_due", "_law_odd", "_law_own"] "_law_hand_right" (defScope s_law_hand_right) f cdv A outer s H E).nox cl ((defBody s_law_hand_right).getD 9 (.Pass ⟨0, 0, 0, 0⟩)) m_law_hand_right_15 := by
  exact (ss_if (st_not (st_val (se_call (S_law_same.v [true, true]) hr (by decide) (sa_cons (se_var (i := 2)) (sa_cons (se_var (i := 4)) sa_nil))))) (sss_one (t_law_hand_right_14 B S_Lean_part S_kept_by S_law_same S_is_rule K_is_rule_0 cdv A outer s H E hr)) sss_nil)
theorem t_law_hand_right_16 {f : Addr} (B : Bt mg) (S_Lean_part : FT P w K mg base cl 3 "Lean" "part" 2 m_Lean_part) (S_kept_by : FS P w K mg base cl 6 "kept_by" 3 m_kept_by) (S_law_same : FS P w K mg base cl 6 "_law_same" 2 (m_law_same 5)) (S_is_rule : FS P w K mg base cl 1 "is_rule" 1 m_is_rule) (K_is_rule_0 : FK P w K mg base cl 1 "is_rule" 1 m_is_rule 0 ["thing"] [0]) (cdv : Value) (A : Around) (outer : List Env) (s : Shared) (H : Hp) (E : XK) (hr : Room 6 (A.deeper (envOfC "_law_hand_right" (defScope s_law_hand_right) s.heap.objs.size f cdv))) :
    SS (cxOf CX0 P w K mg base ["_law_half", "_law_words", "_law_got", "_law_word", "_law_due", "_law_odd", "_law_own"] "_law_hand_right" (defScope s_law_hand_right) f cdv A outer s H E).nox cl ((defBody s_law_hand_right).getD 10 (.Pass ⟨0, 0, 0, 0⟩)) m_law_hand_right_16 := by
  exact (ss_set (i := 5) sc_law_hand_right.nd (se_lst (sa_cons se_non (sa_cons se_int (sa_cons se_bl (sa_cons se_str (sa_cons se_str (sa_cons se_str (sa_cons se_str (sa_cons (se_tup (sa_cons se_str sa_nil)) (sa_cons (se_lst (sa_cons se_str sa_nil)) (sa_cons se_str (sa_cons (se_tup sa_nil) (sa_cons (se_lst sa_nil) (sa_cons se_str sa_nil)))))))))))))))
theorem t_law_hand_right_18 {f : Addr} (B : Bt mg) (S_Lean_part : FT P w K mg base cl 3 "Lean" "part" 2 m_Lean_part) (S_kept_by : FS P w K mg base cl 6 "kept_by" 3 m_kept_by) (S_law_same : FS P w K mg base cl 6 "_law_same" 2 (m_law_same 5)) (S_is_rule : FS P w K mg base cl 1 "is_rule" 1 m_is_rule) (K_is_rule_0 : FK P w K mg base cl 1 "is_rule" 1 m_is_rule 0 ["thing"] [0]) (cdv : Value) (A : Around) (outer : List Env) (s : Shared) (H : Hp) (E : XK) (hr : Room 6 (A.deeper (envOfC "_law_hand_right" (defScope s_law_hand_right) s.heap.objs.size f cdv))) :
    SS (cxOf CX0 P w K mg base ["_law_half", "_law_words", "_law_got", "_law_word", "_law_due", "_law_odd", "_law_own"] "_law_hand_right" (defScope s_law_hand_right) f cdv A outer s H E).nox cl ((sub1 ((defBody s_law_hand_right).getD 11 (.Pass ⟨0, 0, 0, 0⟩))).getD 0 (.Pass ⟨0, 0, 0, 0⟩)) m_law_hand_right_18 := by
  exact (ss_ret se_bl)
theorem t_law_hand_right_19 {f : Addr} (B : Bt mg) (S_Lean_part : FT P w K mg base cl 3 "Lean" "part" 2 m_Lean_part) (S_kept_by : FS P w K mg base cl 6 "kept_by" 3 m_kept_by) (S_law_same : FS P w K mg base cl 6 "_law_same" 2 (m_law_same 5)) (S_is_rule : FS P w K mg base cl 1 "is_rule" 1 m_is_rule) (K_is_rule_0 : FK P w K mg base cl 1 "is_rule" 1 m_is_rule 0 ["thing"] [0]) (cdv : Value) (A : Around) (outer : List Env) (s : Shared) (H : Hp) (E : XK) (hr : Room 6 (A.deeper (envOfC "_law_hand_right" (defScope s_law_hand_right) s.heap.objs.size f cdv))) :
    SS (cxOf CX0 P w K mg base ["_law_half", "_law_words", "_law_got", "_law_word", "_law_due", "_law_odd", "_law_own"] "_law_hand_right" (defScope s_law_hand_right) f cdv A outer s H E).nox cl ((defBody s_law_hand_right).getD 11 (.Pass ⟨0, 0, 0, 0⟩)) m_law_hand_right_19 := by
  exact (ss_if (st_not (st_val (se_call S_law_same.x hr (by decide) (sa_cons (se_lc (own := [("_law_own", 6)]) sc_law_hand_right.nd (si_seq (se_var (i := 5))) (sem_name (by decide)) (fun _ _ _ _ _ => (sg_name (cl := cl) (vs := [6]) (i := 6) sc_law_hand_right.nd).1) (fun _ _ _ _ _ => stt_nil) (fun _ _ _ _ _ => (se_call S_is_rule.x hr (by decide) (sa_cons (se_var (i := 6)) sa_nil))) (blkOk_by (by kernel_rfl))) (sa_cons (se_mul (se_lst (sa_cons se_bl sa_nil)) (se_len B.len (sa_cons (se_var (i := 5)) sa_nil))) sa_nil))))) (sss_one (t_law_hand_right_18 B S_Lean_part S_kept_by S_law_same S_is_rule K_is_rule_0 cdv A outer s H E hr)) sss_nil)
theorem t_law_hand_right_21 {f : Addr} (B : Bt mg) (S_Lean_part : FT P w K mg base cl 3 "Lean" "part" 2 m_Lean_part) (S_kept_by : FS P w K mg base cl 6 "kept_by" 3 m_kept_by) (S_law_same : FS P w K mg base cl 6 "_law_same" 2 (m_law_same 5)) (S_is_rule : FS P w K mg base cl 1 "is_rule" 1 m_is_rule) (K_is_rule_0 : FK P w K mg base cl 1 "is_rule" 1 m_is_rule 0 ["thing"] [0]) (cdv : Value) (A : Around) (outer : List Env) (s : Shared) (H : Hp) (E : XK) (hr : Room 6 (A.deeper (envOfC "_law_hand_right" (defScope s_law_hand_right) s.heap.objs.size f cdv))) :
    SS (cxOf CX0 P w K mg base ["_law_half", "_law_words", "_law_got", "_law_word", "_law_due", "_law_odd", "_law_own"] "_law_hand_right" (defScope s_law_hand_right) f cdv A outer s H E).nox cl ((defBody s_law_hand_right).getD 12 (.Pass ⟨0, 0, 0, 0⟩)) m_law_hand_right_21 := by
  exact (ss_setC (i := 2) sc_law_hand_right.nd (se_add (se_lc (own := [("_law_word", 3)]) sc_law_hand_right.nd (si_seq (se_var (i := 1))) (sem_name (by decide)) (fun _ _ _ _ _ => (sg_name (cl := cl) (vs := [3]) (i := 3) sc_law_hand_right.nd).1) (fun _ _ _ _ _ => stt_nil) (fun _ _ _ _ _ => (se_call S_is_rule.x hr (by decide) (sa_cons (se_var (i := 3)) sa_nil))) (blkOk_by (by kernel_rfl))) (se_lst (sa_cons (se_callK0 K_is_rule_0.x hr (by decide) (sk_cons se_str sk_nil)) (sa_cons (se_call S_kept_by.x hr (by decide) (sa_cons (se_tup sa_nil) (sa_cons (se_var (i := 0)) (sa_cons se_str sa_nil)))) sa_nil)))))
theorem t_law_hand_right_22 {f : Addr} (B : Bt mg) (S_Lean_part : FT P w K mg base cl 3 "Lean" "part" 2 m_Lean_part) (S_kept_by : FS P w K mg base cl 6 "kept_by" 3 m_kept_by) (S_law_same : FS P w K mg base cl 6 "_law_same" 2 (m_law_same 5)) (S_is_rule : FS P w K mg base cl 1 "is_rule" 1 m_is_rule) (K_is_rule_0 : FK P w K mg base cl 1 "is_rule" 1 m_is_rule 0 ["thing"] [0]) (cdv : Value) (A : Around) (outer : List Env) (s : Shared) (H : Hp) (E : XK) (hr : Room 6 (A.deeper (envOfC "_law_hand_right" (defScope s_law_hand_right) s.heap.objs.size f cdv))) :
    SS (cxOf CX0 P w K mg base ["_law_half", "_law_words", "_law_got", "_law_word", "_law_due", "_law_odd", "_law_own"] "_law_hand_right" (defScope s_law_hand_right) f cdv A outer s H E).nox cl ((defBody s_law_hand_right).getD 13 (.Pass ⟨0, 0, 0, 0⟩)) m_law_hand_right_22 := by
  exact (ss_ret (se_call (S_law_same.v [true, false]) hr (by decide) (sa_cons (se_var (i := 2)) (sa_cons (se_add (se_mul (se_lst (sa_cons se_bl sa_nil)) se_int) (se_lst (sa_cons (se_lst sa_nil) sa_nil))) sa_nil))))
theorem ok_law_hand_right {f : Addr} {fd : FuncData} (F : Fun K "_law_hand_right" "_law_hand_right" s_law_hand_right f fd) (B : Bt mg) (S_Lean_part : FT P w K mg base cl 3 "Lean" "part" 2 m_Lean_part) (S_kept_by : FS P w K mg base cl 6 "kept_by" 3 m_kept_by) (S_law_same : FS P w K mg base cl 6 "_law_same" 2 (m_law_same 5)) (S_is_rule : FS P w K mg base cl 1 "is_rule" 1 m_is_rule) (K_is_rule_0 : FK P w K mg base cl 1 "is_rule" 1 m_is_rule 0 ["thing"] [0]) : FnOk P w K mg base CX0 7 f fd [] (spM K cl 0 m_law_hand_right) := by
  refine def_ok (N := ["_law_half", "_law_words", "_law_got", "_law_word", "_law_due", "_law_odd", "_law_own"]) (n := 0) F sc_law_hand_right rfl (fun cdv A outer s H E hr => ?_)
  exact (sss_cons (t_law_hand_right_0 B S_Lean_part S_kept_by S_law_same S_is_rule K_is_rule_0 cdv A outer s H E hr)
    (sss_cons (t_law_hand_right_3 B S_Lean_part S_kept_by S_law_same S_is_rule K_is_rule_0 cdv A outer s H E hr)
    (sss_cons (t_law_hand_right_4 B S_Lean_part S_kept_by S_law_same S_is_rule K_is_rule_0 cdv A outer s H E hr)
    (sss_cons (t_law_hand_right_6 B S_Lean_part S_kept_by S_law_same S_is_rule K_is_rule_0 cdv A outer s H E hr)
    (sss_cons (t_law_hand_right_7 B S_Lean_part S_kept_by S_law_same S_is_rule K_is_rule_0 cdv A outer s H E hr)
    (sss_cons (t_law_hand_right_9 B S_Lean_part S_kept_by S_law_same S_is_rule K_is_rule_0 cdv A outer s H E hr)
    (sss_cons (t_law_hand_right_10 B S_Lean_part S_kept_by S_law_same S_is_rule K_is_rule_0 cdv A outer s H E hr)
    (sss_cons (t_law_hand_right_12 B S_Lean_part S_kept_by S_law_same S_is_rule K_is_rule_0 cdv A outer s H E hr)
    (sss_cons (t_law_hand_right_13 B S_Lean_part S_kept_by S_law_same S_is_rule K_is_rule_0 cdv A outer s H E hr)
    (sss_cons (t_law_hand_right_15 B S_Lean_part S_kept_by S_law_same S_is_rule K_is_rule_0 cdv A outer s H E hr)
    (sss_cons (t_law_hand_right_16 B S_Lean_part S_kept_by S_law_same S_is_rule K_is_rule_0 cdv A outer s H E hr)
    (sss_cons (t_law_hand_right_19 B S_Lean_part S_kept_by S_law_same S_is_rule K_is_rule_0 cdv A outer s H E hr)
    (sss_cons (t_law_hand_right_21 B S_Lean_part S_kept_by S_law_same S_is_rule K_is_rule_0 cdv A outer s H E hr)
    (sss_one (t_law_hand_right_22 B S_Lean_part S_kept_by S_law_same S_is_rule K_is_rule_0 cdv A outer s H E hr)))))))))))))))
theorem fs_law_hand_right {f : Addr} {fd : FuncData} (F : Fun K "_law_hand_right" "_law_hand_right" s_law_hand_right f fd) (hm : mg "_law_hand_right" = some (.ref f)) (B : Bt mg) (S_Lean_part : FT P w K mg base cl 3 "Lean" "part" 2 m_Lean_part) (S_kept_by : FS P w K mg base cl 6 "kept_by" 3 m_kept_by) (S_law_same : FS P w K mg base cl 6 "_law_same" 2 (m_law_same 5)) (S_is_rule : FS P w K mg base cl 1 "is_rule" 1 m_is_rule) (K_is_rule_0 : FK P w K mg base cl 1 "is_rule" 1 m_is_rule 0 ["thing"] [0]) : FS P w K mg base cl 7 "_law_hand_right" 0 m_law_hand_right :=
  ⟨⟨f, fd, [], ok_law_hand_right F B S_Lean_part S_kept_by S_law_same S_is_rule K_is_rule_0, hm, F.kp, F.binds (ps := []) fun _ _ _ _ _ _ us hl => match us, hl with | [], _ => rfl, rfl⟩, fun rs μ z h => mDef_ar rs μ z h⟩
end
end NS
set_option Elab.async false
set_option linter.all false
set_option maxRecDepth 100000
set_option maxHeartbeats 4000000
namespace NS
open PySem PySem.Spec PyProof.Rows L2 DL
section
variable {P : Program} {w : World} {K : PySem.W.Frag} {mg : Str → Option Value} {base : Heap} {cl : Nat → Addr}
theorem t_law_take_0 {f : Addr} (B : Bt mg) (cdv : Value) (A : Around) (outer : List Env) (s : Shared) (H : Hp) (E : XK) (hr : Room 0 (A.deeper (envOfC "_law_take" (defScope s_law_take) s.heap.objs.size f cdv))) :
    SS (cxOf CX0 P w K mg base ["_law_box_here", "_law_below", "_law_drawn", "_law_once", "_law_far", "_law_twice"] "_law_take" (defScope s_law_take) f cdv A outer s H E).nox cl ((sub1 ((defBody s_law_take).getD 0 (.Pass ⟨0, 0, 0, 0⟩))).getD 0 (.Pass ⟨0, 0, 0, 0⟩)) m_law_take_0 := by
  exact (ss_set (i := 2) sc_law_take.nd (se_mod (se_int1 B.int (sa_cons (se_ix (se_var (i := 0)) se_int) sa_nil)) (se_var (i := 1))))
theorem t_law_take_1 {f : Addr} (B : Bt mg) (cdv : Value) (A : Around) (outer : List Env) (s : Shared) (H : Hp) (E : XK) (hr : Room 0 (A.deeper (envOfC "_law_take" (defScope s_law_take) s.heap.objs.size f cdv))) :
    SS (cxOf CX0 P w K mg base ["_law_box_here", "_law_below", "_law_drawn", "_law_once", "_law_far", "_law_twice"] "_law_take" (defScope s_law_take) f cdv A outer s H E).nox cl ((sub1 ((defBody s_law_take).getD 0 (.Pass ⟨0, 0, 0, 0⟩))).getD 1 (.Pass ⟨0, 0, 0, 0⟩)) m_law_take_1 := by
  exact (ss_put (se_var (i := 0)) se_int (se_div (se_ix (se_var (i := 0)) se_int) (se_var (i := 1))))
theorem t_law_take_2 {f : Addr} (B : Bt mg) (cdv : Value) (A : Around) (outer : List Env) (s : Shared) (H : Hp) (E : XK) (hr : Room 0 (A.deeper (envOfC "_law_take" (defScope s_law_take) s.heap.objs.size f cdv))) :
    SS (cxOf CX0 P w K mg base ["_law_box_here", "_law_below", "_law_drawn", "_law_once", "_law_far", "_law_twice"] "_law_take" (defScope s_law_take) f cdv A outer s H E).nox cl ((sub1 ((defBody s_law_take).getD 0 (.Pass ⟨0, 0, 0, 0⟩))).getD 2 (.Pass ⟨0, 0, 0, 0⟩)) m_law_take_2 := by
  exact (ss_ret (se_var (i := 2)))
theorem t_law_take_3 {f : Addr} (B : Bt mg) (cdv : Value) (A : Around) (outer : List Env) (s : Shared) (H : Hp) (E : XK) (hr : Room 0 (A.deeper (envOfC "_law_take" (defScope s_law_take) s.heap.objs.size f cdv))) :
    SS (cxOf CX0 P w K mg base ["_law_box_here", "_law_below", "_law_drawn", "_law_once", "_law_far", "_law_twice"] "_law_take" (defScope s_law_take) f cdv A outer s H E).nox cl ((defBody s_law_take).getD 0 (.Pass ⟨0, 0, 0, 0⟩)) m_law_take_3 := by
  exact (ss_if (st_gt (se_ix (se_var (i := 0)) se_int) se_int) (sss_cons (t_law_take_0 B cdv A outer s H E hr)
    (sss_cons (t_law_take_1 B cdv A outer s H E hr)
    (sss_one (t_law_take_2 B cdv A outer s H E hr)))) sss_nil)
theorem t_law_take_4 {f : Addr} (B : Bt mg) (cdv : Value) (A : Around) (outer : List Env) (s : Shared) (H : Hp) (E : XK) (hr : Room 0 (A.deeper (envOfC "_law_take" (defScope s_law_take) s.heap.objs.size f cdv))) :
    SS (cxOf CX0 P w K mg base ["_law_box_here", "_law_below", "_law_drawn", "_law_once", "_law_far", "_law_twice"] "_law_take" (defScope s_law_take) f cdv A outer s H E).nox cl ((defBody s_law_take).getD 1 (.Pass ⟨0, 0, 0, 0⟩)) m_law_take_4 := by
  exact (ss_put (se_var (i := 0)) se_int (se_add (se_ix (se_var (i := 0)) se_int) se_int))
theorem t_law_take_5 {f : Addr} (B : Bt mg) (cdv : Value) (A : Around) (outer : List Env) (s : Shared) (H : Hp) (E : XK) (hr : Room 0 (A.deeper (envOfC "_law_take" (defScope s_law_take) s.heap.objs.size f cdv))) :
    SS (cxOf CX0 P w K mg base ["_law_box_here", "_law_below", "_law_drawn", "_law_once", "_law_far", "_law_twice"] "_law_take" (defScope s_law_take) f cdv A outer s H E).nox cl ((defBody s_law_take).getD 2 (.Pass ⟨0, 0, 0, 0⟩)) m_law_take_5 := by
  exact (ss_set (i := 3) sc_law_take.nd (se_mod (se_int1 B.int (sa_cons (se_mul (se_add (se_ix (se_var (i := 0)) se_int) (se_mul se_int (se_ix (se_var (i := 0)) se_int))) (se_add se_int (se_ix (se_var (i := 0)) se_int))) sa_nil)) se_int))
theorem t_law_take_6 {f : Addr} (B : Bt mg) (cdv : Value) (A : Around) (outer : List Env) (s : Shared) (H : Hp) (E : XK) (hr : Room 0 (A.deeper (envOfC "_law_take" (defScope s_law_take) s.heap.objs.size f cdv))) :
    SS (cxOf CX0 P w K mg base ["_law_box_here", "_law_below", "_law_drawn", "_law_once", "_law_far", "_law_twice"] "_law_take" (defScope s_law_take) f cdv A outer s H E).nox cl ((defBody s_law_take).getD 3 (.Pass ⟨0, 0, 0, 0⟩)) m_law_take_6 := by
  exact (ss_set (i := 4) sc_law_take.nd (se_add (se_mod (se_int1 B.int (sa_cons (se_var (i := 3)) sa_nil)) se_int) se_int))
theorem t_law_take_7 {f : Addr} (B : Bt mg) (cdv : Value) (A : Around) (outer : List Env) (s : Shared) (H : Hp) (E : XK) (hr : Room 0 (A.deeper (envOfC "_law_take" (defScope s_law_take) s.heap.objs.size f cdv))) :
    SS (cxOf CX0 P w K mg base ["_law_box_here", "_law_below", "_law_drawn", "_law_once", "_law_far", "_law_twice"] "_law_take" (defScope s_law_take) f cdv A outer s H E).nox cl ((defBody s_law_take).getD 4 (.Pass ⟨0, 0, 0, 0⟩)) m_law_take_7 := by
  exact (ss_set (i := 5) sc_law_take.nd (se_mod (se_int1 B.int (sa_cons (se_mul (se_add (se_add (se_var (i := 3)) (se_ix (se_var (i := 0)) se_int)) (se_div (se_ix (se_var (i := 0)) se_int) se_int)) (se_var (i := 4))) sa_nil)) se_int))
theorem t_law_take_8 {f : Addr} (B : Bt mg) (cdv : Value) (A : Around) (outer : List Env) (s : Shared) (H : Hp) (E : XK) (hr : Room 0 (A.deeper (envOfC "_law_take" (defScope s_law_take) s.heap.objs.size f cdv))) :
    SS (cxOf CX0 P w K mg base ["_law_box_here", "_law_below", "_law_drawn", "_law_once", "_law_far", "_law_twice"] "_law_take" (defScope s_law_take) f cdv A outer s H E).nox cl ((defBody s_law_take).getD 5 (.Pass ⟨0, 0, 0, 0⟩)) m_law_take_8 := by
  exact (ss_ret (se_mod (se_int1 B.int (sa_cons (se_div (se_mod (se_int1 B.int (sa_cons (se_add (se_mul (se_var (i := 5)) se_int) (se_var (i := 3))) sa_nil)) se_int) se_int) sa_nil)) (se_var (i := 1))))
theorem ok_law_take {f : Addr} {fd : FuncData} (F : Fun K "_law_take" "_law_take" s_law_take f fd) (B : Bt mg) : FnOk P w K mg base CX0 1 f fd ["_law_box_here", "_law_below"] (spM K cl 2 m_law_take) := by
  refine def_ok (N := ["_law_box_here", "_law_below", "_law_drawn", "_law_once", "_law_far", "_law_twice"]) (n := 2) F sc_law_take rfl (fun cdv A outer s H E hr => ?_)
  exact (sss_cons (t_law_take_3 B cdv A outer s H E hr)
    (sss_cons (t_law_take_4 B cdv A outer s H E hr)
    (sss_cons (t_law_take_5 B cdv A outer s H E hr)
    (sss_cons (t_law_take_6 B cdv A outer s H E hr)
    (sss_cons (t_law_take_7 B cdv A outer s H E hr)
    (sss_one (t_law_take_8 B cdv A outer s H E hr)))))))
theorem fs_law_take {f : Addr} {fd : FuncData} (F : Fun K "_law_take" "_law_take" s_law_take f fd) (hm : mg "_law_take" = some (.ref f)) (B : Bt mg) : FS P w K mg base cl 1 "_law_take" 2 m_law_take :=
  ⟨⟨f, fd, ["_law_box_here", "_law_below"], ok_law_take F B, hm, F.kp, F.binds (ps := ["_law_box_here", "_law_below"]) fun _ _ _ _ _ _ us hl => match us, hl with | [_, _], _ => rfl, rfl⟩, fun rs μ z h => mDef_ar rs μ z h⟩
end
end NS
set_option Elab.async false
set_option linter.all false
set_option maxRecDepth 100000
set_option maxHeartbeats 4000000
namespace NS
open PySem PySem.Spec PyProof.Rows L2 DL
section
variable {P : Program} {w : World} {K : PySem.W.Frag} {mg : Str → Option Value} {base : Heap} {cl : Nat → Addr}
theorem t_law_of_0 {f : Addr} (B : Bt mg) (S_law_take : FS P w K mg base cl 1 "_law_take" 2 m_law_take) (cdv : Value) (A : Around) (outer : List Env) (s : Shared) (H : Hp) (E : XK) (hr : Room 1 (A.deeper (envOfC "_law_of" (defScope s_law_of) s.heap.objs.size f cdv))) :
    SS (cxOf CX0 P w K mg base ["_law_box_here", "_law_some_so"] "_law_of" (defScope s_law_of) f cdv A outer s H E).nox cl ((defBody s_law_of).getD 0 (.Pass ⟨0, 0, 0, 0⟩)) m_law_of_0 := by
  exact (ss_ret (se_ix (se_var (i := 1)) (se_call S_law_take.x hr (by decide) (sa_cons (se_var (i := 0)) (sa_cons (se_len B.len (sa_cons (se_var (i := 1)) sa_nil)) sa_nil)))))
theorem ok_law_of {f : Addr} {fd : FuncData} (F : Fun K "_law_of" "_law_of" s_law_of f fd) (B : Bt mg) (S_law_take : FS P w K mg base cl 1 "_law_take" 2 m_law_take) : FnOk P w K mg base CX0 2 f fd ["_law_box_here", "_law_some_so"] (spM K cl 2 m_law_of) := by
  refine def_ok (N := ["_law_box_here", "_law_some_so"]) (n := 2) F sc_law_of rfl (fun cdv A outer s H E hr => ?_)
  exact (sss_one (t_law_of_0 B S_law_take cdv A outer s H E hr))
theorem fs_law_of {f : Addr} {fd : FuncData} (F : Fun K "_law_of" "_law_of" s_law_of f fd) (hm : mg "_law_of" = some (.ref f)) (B : Bt mg) (S_law_take : FS P w K mg base cl 1 "_law_take" 2 m_law_take) : FS P w K mg base cl 2 "_law_of" 2 m_law_of :=
  ⟨⟨f, fd, ["_law_box_here", "_law_some_so"], ok_law_of F B S_law_take, hm, F.kp, F.binds (ps := ["_law_box_here", "_law_some_so"]) fun _ _ _ _ _ _ us hl => match us, hl with | [_, _], _ => rfl, rfl⟩, fun rs μ z h => mDef_ar rs μ z h⟩
end
end NS
set_option Elab.async false
set_option linter.all false
set_option maxRecDepth 100000
set_option maxHeartbeats 4000000
namespace NS
open PySem PySem.Spec PyProof.Rows L2 DL
section
variable {P : Program} {w : World} {K : PySem.W.Frag} {mg : Str → Option Value} {base : Heap} {cl : Nat → Addr}
theorem t_law_pick_0 {f : Addr} (B : Bt mg) (S_law_take : FS P w K mg base cl 1 "_law_take" 2 m_law_take) (cdv : Value) (A : Around) (outer : List Env) (s : Shared) (H : Hp) (E : XK) (hr : Room 1 (A.deeper (envOfC "_law_pick" (defScope s_law_pick) s.heap.objs.size f cdv))) :
    SS (cxOf CX0 P w K mg base ["_law_box_here", "_law_some_so", "_law_many_so", "_law_rest", "_law_found", "_law_turn"] "_law_pick" (defScope s_law_pick) f cdv A outer s H E).nox cl ((defBody s_law_pick).getD 0 (.Pass ⟨0, 0, 0, 0⟩)) m_law_pick_0 := by
  exact (ss_par (ci := true) (cj := true) (i := 3) (j := 4) sc_law_pick.nd (se_list B.list (sa_cons (se_var (i := 1)) sa_nil)) (se_lst sa_nil))
theorem t_law_pick_1 {f : Addr} (B : Bt mg) (S_law_take : FS P w K mg base cl 1 "_law_take" 2 m_law_take) (cdv : Value) (A : Around) (outer : List Env) (s : Shared) (H : Hp) (E : XK) (hr : Room 1 (A.deeper (envOfC "_law_pick" (defScope s_law_pick) s.heap.objs.size f cdv))) :
    SS (cxOf CX0 P w K mg base ["_law_box_here", "_law_some_so", "_law_many_so", "_law_rest", "_law_found", "_law_turn"] "_law_pick" (defScope s_law_pick) f cdv A outer s H E).nox cl ((sub1 ((defBody s_law_pick).getD 1 (.Pass ⟨0, 0, 0, 0⟩))).getD 0 (.Pass ⟨0, 0, 0, 0⟩)) m_law_pick_1 := by
  exact (ss_expr (se_append (se_var (i := 4)) (sa_cons (se_popAt (se_var (i := 3)) (sa_cons (se_call S_law_take.x hr (by decide) (sa_cons (se_var (i := 0)) (sa_cons (se_len B.len (sa_cons (se_var (i := 3)) sa_nil)) sa_nil))) sa_nil)) sa_nil)))
theorem t_law_pick_2 {f : Addr} (B : Bt mg) (S_law_take : FS P w K mg base cl 1 "_law_take" 2 m_law_take) (cdv : Value) (A : Around) (outer : List Env) (s : Shared) (H : Hp) (E : XK) (hr : Room 1 (A.deeper (envOfC "_law_pick" (defScope s_law_pick) s.heap.objs.size f cdv))) :
    SS (cxOf CX0 P w K mg base ["_law_box_here", "_law_some_so", "_law_many_so", "_law_rest", "_law_found", "_law_turn"] "_law_pick" (defScope s_law_pick) f cdv A outer s H E).nox cl ((defBody s_law_pick).getD 1 (.Pass ⟨0, 0, 0, 0⟩)) m_law_pick_2 := by
  exact (ss_for (si_range1 B.range (sa_cons (se_min B.min (sa_cons (se_int1 B.int (sa_cons (se_var (i := 2)) sa_nil)) (sa_cons (se_len B.len (sa_cons (se_var (i := 3)) sa_nil)) sa_nil))) sa_nil)) (sg_name (i := 5) (vs := [5]) sc_law_pick.nd) (sss_one (t_law_pick_1 B S_law_take cdv A outer s H E hr)))
theorem t_law_pick_3 {f : Addr} (B : Bt mg) (S_law_take : FS P w K mg base cl 1 "_law_take" 2 m_law_take) (cdv : Value) (A : Around) (outer : List Env) (s : Shared) (H : Hp) (E : XK) (hr : Room 1 (A.deeper (envOfC "_law_pick" (defScope s_law_pick) s.heap.objs.size f cdv))) :
    SS (cxOf CX0 P w K mg base ["_law_box_here", "_law_some_so", "_law_many_so", "_law_rest", "_law_found", "_law_turn"] "_law_pick" (defScope s_law_pick) f cdv A outer s H E).nox cl ((defBody s_law_pick).getD 2 (.Pass ⟨0, 0, 0, 0⟩)) m_law_pick_3 := by
  exact (ss_ret (se_var (i := 4)))
theorem ok_law_pick {f : Addr} {fd : FuncData} (F : Fun K "_law_pick" "_law_pick" s_law_pick f fd) (B : Bt mg) (S_law_take : FS P w K mg base cl 1 "_law_take" 2 m_law_take) : FnOk P w K mg base CX0 2 f fd ["_law_box_here", "_law_some_so", "_law_many_so"] (spM K cl 3 m_law_pick) := by
  refine def_ok (N := ["_law_box_here", "_law_some_so", "_law_many_so", "_law_rest", "_law_found", "_law_turn"]) (n := 3) F sc_law_pick rfl (fun cdv A outer s H E hr => ?_)
  exact (sss_cons (t_law_pick_0 B S_law_take cdv A outer s H E hr)
    (sss_cons (t_law_pick_2 B S_law_take cdv A outer s H E hr)
    (sss_one (t_law_pick_3 B S_law_take cdv A outer s H E hr))))
theorem fs_law_pick {f : Addr} {fd : FuncData} (F : Fun K "_law_pick" "_law_pick" s_law_pick f fd) (hm : mg "_law_pick" = some (.ref f)) (B : Bt mg) (S_law_take : FS P w K mg base cl 1 "_law_take" 2 m_law_take) : FS P w K mg base cl 2 "_law_pick" 3 m_law_pick :=
  ⟨⟨f, fd, ["_law_box_here", "_law_some_so", "_law_many_so"], ok_law_pick F B S_law_take, hm, F.kp, F.binds (ps := ["_law_box_here", "_law_some_so", "_law_many_so"]) fun _ _ _ _ _ _ us hl => match us, hl with | [_, _, _], _ => rfl, rfl⟩, fun rs μ z h => mDef_ar rs μ z h⟩
end
end NS
set_option Elab.async false
set_option linter.all false
set_option maxRecDepth 100000
set_option maxHeartbeats 4000000
namespace NS
open PySem PySem.Spec PyProof.Rows L2 DL
section
variable {P : Program} {w : World} {K : PySem.W.Frag} {mg : Str → Option Value} {base : Heap} {cl : Nat → Addr}
theorem t_law_values_0 {f : Addr} (B : Bt mg) (S_law_take : FS P w K mg base cl 1 "_law_take" 2 m_law_take) (S_law_of : FS P w K mg base cl 2 "_law_of" 2 m_law_of) (S_law_pick : FS P w K mg base cl 2 "_law_pick" 3 m_law_pick) (cdv : Value) (A : Around) (outer : List Env) (s : Shared) (H : Hp) (E : XK) (hr : Room 2 (A.deeper (envOfC "_law_values" (defScope s_law_values) s.heap.objs.size f cdv))) :
    SS (cxOf CX0 P w K mg base ["_law_box_here", "_law_most_so", "_law_here", "_law_found", "_law_turn"] "_law_values" (defScope s_law_values) f cdv A outer s H E).nox cl ((defBody s_law_values).getD 0 (.Pass ⟨0, 0, 0, 0⟩)) m_law_values_0 := by
  exact (ss_par (ci := false) (cj := true) (i := 2) (j := 3) sc_law_values.nd (se_sub (se_call S_law_take.x hr (by decide) (sa_cons (se_var (i := 0)) (sa_cons se_int sa_nil))) se_int) (se_lst sa_nil))
theorem t_law_values_1 {f : Addr} (B : Bt mg) (S_law_take : FS P w K mg base cl 1 "_law_take" 2 m_law_take) (S_law_of : FS P w K mg base cl 2 "_law_of" 2 m_law_of) (S_law_pick : FS P w K mg base cl 2 "_law_pick" 3 m_law_pick) (cdv : Value) (A : Around) (outer : List Env) (s : Shared) (H : Hp) (E : XK) (hr : Room 2 (A.deeper (envOfC "_law_values" (defScope s_law_values) s.heap.objs.size f cdv))) :
    SS (cxOf CX0 P w K mg base ["_law_box_here", "_law_most_so", "_law_here", "_law_found", "_law_turn"] "_law_values" (defScope s_law_values) f cdv A outer s H E).nox cl ((sub1 ((defBody s_law_values).getD 1 (.Pass ⟨0, 0, 0, 0⟩))).getD 0 (.Pass ⟨0, 0, 0, 0⟩)) m_law_values_1 := by
  exact (ss_expr (se_append (se_var (i := 3)) (sa_cons (se_var (i := 2)) sa_nil)))
theorem t_law_values_2 {f : Addr} (B : Bt mg) (S_law_take : FS P w K mg base cl 1 "_law_take" 2 m_law_take) (S_law_of : FS P w K mg base cl 2 "_law_of" 2 m_law_of) (S_law_pick : FS P w K mg base cl 2 "_law_pick" 3 m_law_pick) (cdv : Value) (A : Around) (outer : List Env) (s : Shared) (H : Hp) (E : XK) (hr : Room 2 (A.deeper (envOfC "_law_values" (defScope s_law_values) s.heap.objs.size f cdv))) :
    SS (cxOf CX0 P w K mg base ["_law_box_here", "_law_most_so", "_law_here", "_law_found", "_law_turn"] "_law_values" (defScope s_law_values) f cdv A outer s H E).nox cl ((sub1 ((defBody s_law_values).getD 1 (.Pass ⟨0, 0, 0, 0⟩))).getD 1 (.Pass ⟨0, 0, 0, 0⟩)) m_law_values_2 := by
  exact (ss_set (i := 2) sc_law_values.nd (se_add (se_var (i := 2)) (se_call S_law_of.x hr (by decide) (sa_cons (se_var (i := 0)) (sa_cons (se_lst (sa_cons se_int (sa_cons se_int (sa_cons se_int (sa_cons se_int (sa_cons se_int (sa_cons se_int (sa_cons se_int (sa_cons se_int sa_nil))))))))) sa_nil)))))
theorem t_law_values_4 {f : Addr} (B : Bt mg) (S_law_take : FS P w K mg base cl 1 "_law_take" 2 m_law_take) (S_law_of : FS P w K mg base cl 2 "_law_of" 2 m_law_of) (S_law_pick : FS P w K mg base cl 2 "_law_pick" 3 m_law_pick) (cdv : Value) (A : Around) (outer : List Env) (s : Shared) (H : Hp) (E : XK) (hr : Room 2 (A.deeper (envOfC "_law_values" (defScope s_law_values) s.heap.objs.size f cdv))) :
    SS (cxOf CX0 P w K mg base ["_law_box_here", "_law_most_so", "_law_here", "_law_found", "_law_turn"] "_law_values" (defScope s_law_values) f cdv A outer s H E).nox cl ((defBody s_law_values).getD 1 (.Pass ⟨0, 0, 0, 0⟩)) m_law_values_4 := by
  exact (ss_for (si_range1 B.range (sa_cons (se_call S_law_take.x hr (by decide) (sa_cons (se_var (i := 0)) (sa_cons (se_add (se_var (i := 1)) se_int) sa_nil))) sa_nil)) (sg_name (i := 4) (vs := [4]) sc_law_values.nd) (sss_cons (t_law_values_1 B S_law_take S_law_of S_law_pick cdv A outer s H E hr)
    (sss_one (t_law_values_2 B S_law_take S_law_of S_law_pick cdv A outer s H E hr))))
theorem t_law_values_5 {f : Addr} (B : Bt mg) (S_law_take : FS P w K mg base cl 1 "_law_take" 2 m_law_take) (S_law_of : FS P w K mg base cl 2 "_law_of" 2 m_law_of) (S_law_pick : FS P w K mg base cl 2 "_law_pick" 3 m_law_pick) (cdv : Value) (A : Around) (outer : List Env) (s : Shared) (H : Hp) (E : XK) (hr : Room 2 (A.deeper (envOfC "_law_values" (defScope s_law_values) s.heap.objs.size f cdv))) :
    SS (cxOf CX0 P w K mg base ["_law_box_here", "_law_most_so", "_law_here", "_law_found", "_law_turn"] "_law_values" (defScope s_law_values) f cdv A outer s H E).nox cl ((defBody s_law_values).getD 2 (.Pass ⟨0, 0, 0, 0⟩)) m_law_values_5 := by
  exact (ss_ret (se_tuple B.tuple (sa_cons (se_call (S_law_pick.v [false, true, false]) hr (by decide) (sa_cons (se_var (i := 0)) (sa_cons (se_var (i := 3)) (sa_cons (se_len B.len (sa_cons (se_var (i := 3)) sa_nil)) sa_nil)))) sa_nil)))
theorem ok_law_values {f : Addr} {fd : FuncData} (F : Fun K "_law_values" "_law_values" s_law_values f fd) (B : Bt mg) (S_law_take : FS P w K mg base cl 1 "_law_take" 2 m_law_take) (S_law_of : FS P w K mg base cl 2 "_law_of" 2 m_law_of) (S_law_pick : FS P w K mg base cl 2 "_law_pick" 3 m_law_pick) : FnOk P w K mg base CX0 3 f fd ["_law_box_here", "_law_most_so"] (spM K cl 2 m_law_values) := by
  refine def_ok (N := ["_law_box_here", "_law_most_so", "_law_here", "_law_found", "_law_turn"]) (n := 2) F sc_law_values rfl (fun cdv A outer s H E hr => ?_)
  exact (sss_cons (t_law_values_0 B S_law_take S_law_of S_law_pick cdv A outer s H E hr)
    (sss_cons (t_law_values_4 B S_law_take S_law_of S_law_pick cdv A outer s H E hr)
    (sss_one (t_law_values_5 B S_law_take S_law_of S_law_pick cdv A outer s H E hr))))
theorem fs_law_values {f : Addr} {fd : FuncData} (F : Fun K "_law_values" "_law_values" s_law_values f fd) (hm : mg "_law_values" = some (.ref f)) (B : Bt mg) (S_law_take : FS P w K mg base cl 1 "_law_take" 2 m_law_take) (S_law_of : FS P w K mg base cl 2 "_law_of" 2 m_law_of) (S_law_pick : FS P w K mg base cl 2 "_law_pick" 3 m_law_pick) : FS P w K mg base cl 3 "_law_values" 2 m_law_values :=
  ⟨⟨f, fd, ["_law_box_here", "_law_most_so"], ok_law_values F B S_law_take S_law_of S_law_pick, hm, F.kp, F.binds (ps := ["_law_box_here", "_law_most_so"]) fun _ _ _ _ _ _ us hl => match us, hl with | [_, _], _ => rfl, rfl⟩, fun rs μ z h => mDef_ar rs μ z h⟩
end
end NS
set_option Elab.async false
set_option linter.all false
set_option maxRecDepth 100000
set_option maxHeartbeats 4000000
namespace NS
open PySem PySem.Spec PyProof.Rows L2 DL
section
variable {P : Program} {w : World} {K : PySem.W.Frag} {mg : Str → Option Value} {base : Heap} {cl : Nat → Addr}
theorem t_law_leans_0 {f : Addr} (B : Bt mg) (cdv : Value) (A : Around) (outer : List Env) (s : Shared) (H : Hp) (E : XK) (hr : Room 0 (A.deeper (envOfC "_law_leans" (defScope s_law_leans) s.heap.objs.size f cdv))) :
    SS (cxOf CX0 P w K mg base ["_law_parts", "_law_mine", "_law_its"] "_law_leans" (defScope s_law_leans) f cdv A outer s H E).nox cl ((defBody s_law_leans).getD 0 (.Pass ⟨0, 0, 0, 0⟩)) m_law_leans_0 := by
  exact (ss_ret (se_le (se_mul (se_abs B.abs (sa_cons (se_sub (se_var (i := 1)) (se_var (i := 2))) sa_nil)) (se_ix (se_var (i := 0)) se_int)) (se_add (se_mul (se_ix (se_var (i := 0)) se_int) (se_ix (se_var (i := 0)) se_int)) (se_mul (se_ix (se_var (i := 0)) se_int) (se_abs B.abs (sa_cons (se_var (i := 2)) sa_nil))))))
theorem ok_law_leans {f : Addr} {fd : FuncData} (F : Fun K "_law_leans" "_law_leans" s_law_leans f fd) (B : Bt mg) : FnOk P w K mg base CX0 1 f fd ["_law_parts", "_law_mine", "_law_its"] (spM K cl 3 m_law_leans) := by
  refine def_ok (N := ["_law_parts", "_law_mine", "_law_its"]) (n := 3) F sc_law_leans rfl (fun cdv A outer s H E hr => ?_)
  exact (sss_one (t_law_leans_0 B cdv A outer s H E hr))
theorem fs_law_leans {f : Addr} {fd : FuncData} (F : Fun K "_law_leans" "_law_leans" s_law_leans f fd) (hm : mg "_law_leans" = some (.ref f)) (B : Bt mg) : FS P w K mg base cl 1 "_law_leans" 3 m_law_leans :=
  ⟨⟨f, fd, ["_law_parts", "_law_mine", "_law_its"], ok_law_leans F B, hm, F.kp, F.binds (ps := ["_law_parts", "_law_mine", "_law_its"]) fun _ _ _ _ _ _ us hl => match us, hl with | [_, _, _], _ => rfl, rfl⟩, fun rs μ z h => mDef_ar rs μ z h⟩
end
end NS
set_option Elab.async false
set_option linter.all false
set_option maxRecDepth 100000
set_option maxHeartbeats 4000000
namespace NS
open PySem PySem.Spec PyProof.Rows L2 DL
section
variable {P : Program} {w : World} {K : PySem.W.Frag} {mg : Str → Option Value} {base : Heap} {cl : Nat → Addr}
theorem t_law_out_0 {f : Addr} (B : Bt mg) (S_law_leans : FS P w K mg base cl 1 "_law_leans" 3 m_law_leans) (cdv : Value) (A : Around) (outer : List Env) (s : Shared) (H : Hp) (E : XK) (hr : Room 1 (A.deeper (envOfC "_law_out" (defScope s_law_out) s.heap.objs.size f cdv))) :
    SS (cxOf CX0 P w K mg base ["_law_parts", "_law_word", "_law_old", "_law_new"] "_law_out" (defScope s_law_out) f cdv A outer s H E).nox cl ((sub1 ((defBody s_law_out).getD 0 (.Pass ⟨0, 0, 0, 0⟩))).getD 0 (.Pass ⟨0, 0, 0, 0⟩)) m_law_out_0 := by
  exact (ss_ret (se_call S_law_leans.x hr (by decide) (sa_cons (se_var (i := 0)) (sa_cons (se_var (i := 3)) (sa_cons (se_var (i := 2)) sa_nil)))))
theorem t_law_out_1 {f : Addr} (B : Bt mg) (S_law_leans : FS P w K mg base cl 1 "_law_leans" 3 m_law_leans) (cdv : Value) (A : Around) (outer : List Env) (s : Shared) (H : Hp) (E : XK) (hr : Room 1 (A.deeper (envOfC "_law_out" (defScope s_law_out) s.heap.objs.size f cdv))) :
    SS (cxOf CX0 P w K mg base ["_law_parts", "_law_word", "_law_old", "_law_new"] "_law_out" (defScope s_law_out) f cdv A outer s H E).nox cl ((defBody s_law_out).getD 0 (.Pass ⟨0, 0, 0, 0⟩)) m_law_out_1 := by
  exact (ss_if (st_eq hr.units (se_var (i := 1)) se_str) (sss_one (t_law_out_0 B S_law_leans cdv A outer s H E hr)) sss_nil)
theorem t_law_out_2 {f : Addr} (B : Bt mg) (S_law_leans : FS P w K mg base cl 1 "_law_leans" 3 m_law_leans) (cdv : Value) (A : Around) (outer : List Env) (s : Shared) (H : Hp) (E : XK) (hr : Room 1 (A.deeper (envOfC "_law_out" (defScope s_law_out) s.heap.objs.size f cdv))) :
    SS (cxOf CX0 P w K mg base ["_law_parts", "_law_word", "_law_old", "_law_new"] "_law_out" (defScope s_law_out) f cdv A outer s H E).nox cl ((sub1 ((defBody s_law_out).getD 1 (.Pass ⟨0, 0, 0, 0⟩))).getD 0 (.Pass ⟨0, 0, 0, 0⟩)) m_law_out_2 := by
  exact (ss_ret (se_call S_law_leans.x hr (by decide) (sa_cons (se_var (i := 0)) (sa_cons (se_var (i := 2)) (sa_cons (se_var (i := 3)) sa_nil)))))
theorem t_law_out_3 {f : Addr} (B : Bt mg) (S_law_leans : FS P w K mg base cl 1 "_law_leans" 3 m_law_leans) (cdv : Value) (A : Around) (outer : List Env) (s : Shared) (H : Hp) (E : XK) (hr : Room 1 (A.deeper (envOfC "_law_out" (defScope s_law_out) s.heap.objs.size f cdv))) :
    SS (cxOf CX0 P w K mg base ["_law_parts", "_law_word", "_law_old", "_law_new"] "_law_out" (defScope s_law_out) f cdv A outer s H E).nox cl ((defBody s_law_out).getD 1 (.Pass ⟨0, 0, 0, 0⟩)) m_law_out_3 := by
  exact (ss_if (st_eq hr.units (se_var (i := 1)) se_str) (sss_one (t_law_out_2 B S_law_leans cdv A outer s H E hr)) sss_nil)
theorem t_law_out_4 {f : Addr} (B : Bt mg) (S_law_leans : FS P w K mg base cl 1 "_law_leans" 3 m_law_leans) (cdv : Value) (A : Around) (outer : List Env) (s : Shared) (H : Hp) (E : XK) (hr : Room 1 (A.deeper (envOfC "_law_out" (defScope s_law_out) s.heap.objs.size f cdv))) :
    SS (cxOf CX0 P w K mg base ["_law_parts", "_law_word", "_law_old", "_law_new"] "_law_out" (defScope s_law_out) f cdv A outer s H E).nox cl ((sub1 ((defBody s_law_out).getD 2 (.Pass ⟨0, 0, 0, 0⟩))).getD 0 (.Pass ⟨0, 0, 0, 0⟩)) m_law_out_4 := by
  exact (ss_ret (se_and (se_call S_law_leans.x hr (by decide) (sa_cons (se_var (i := 0)) (sa_cons (se_var (i := 3)) (sa_cons (se_var (i := 2)) sa_nil)))) (se_one (se_call S_law_leans.x hr (by decide) (sa_cons (se_var (i := 0)) (sa_cons (se_var (i := 2)) (sa_cons (se_var (i := 3)) sa_nil)))))))
theorem t_law_out_5 {f : Addr} (B : Bt mg) (S_law_leans : FS P w K mg base cl 1 "_law_leans" 3 m_law_leans) (cdv : Value) (A : Around) (outer : List Env) (s : Shared) (H : Hp) (E : XK) (hr : Room 1 (A.deeper (envOfC "_law_out" (defScope s_law_out) s.heap.objs.size f cdv))) :
    SS (cxOf CX0 P w K mg base ["_law_parts", "_law_word", "_law_old", "_law_new"] "_law_out" (defScope s_law_out) f cdv A outer s H E).nox cl ((defBody s_law_out).getD 2 (.Pass ⟨0, 0, 0, 0⟩)) m_law_out_5 := by
  exact (ss_if (st_eq hr.units (se_var (i := 1)) se_str) (sss_one (t_law_out_4 B S_law_leans cdv A outer s H E hr)) sss_nil)
theorem t_law_out_6 {f : Addr} (B : Bt mg) (S_law_leans : FS P w K mg base cl 1 "_law_leans" 3 m_law_leans) (cdv : Value) (A : Around) (outer : List Env) (s : Shared) (H : Hp) (E : XK) (hr : Room 1 (A.deeper (envOfC "_law_out" (defScope s_law_out) s.heap.objs.size f cdv))) :
    SS (cxOf CX0 P w K mg base ["_law_parts", "_law_word", "_law_old", "_law_new"] "_law_out" (defScope s_law_out) f cdv A outer s H E).nox cl ((defBody s_law_out).getD 3 (.Pass ⟨0, 0, 0, 0⟩)) m_law_out_6 := by
  exact (ss_ret (se_or (se_call S_law_leans.x hr (by decide) (sa_cons (se_var (i := 0)) (sa_cons (se_var (i := 3)) (sa_cons (se_var (i := 2)) sa_nil)))) (se_one (se_call S_law_leans.x hr (by decide) (sa_cons (se_var (i := 0)) (sa_cons (se_var (i := 2)) (sa_cons (se_var (i := 3)) sa_nil)))))))
theorem ok_law_out {f : Addr} {fd : FuncData} (F : Fun K "_law_out" "_law_out" s_law_out f fd) (B : Bt mg) (S_law_leans : FS P w K mg base cl 1 "_law_leans" 3 m_law_leans) : FnOk P w K mg base CX0 2 f fd ["_law_parts", "_law_word", "_law_old", "_law_new"] (spM K cl 4 m_law_out) := by
  refine def_ok (N := ["_law_parts", "_law_word", "_law_old", "_law_new"]) (n := 4) F sc_law_out rfl (fun cdv A outer s H E hr => ?_)
  exact (sss_cons (t_law_out_1 B S_law_leans cdv A outer s H E hr)
    (sss_cons (t_law_out_3 B S_law_leans cdv A outer s H E hr)
    (sss_cons (t_law_out_5 B S_law_leans cdv A outer s H E hr)
    (sss_one (t_law_out_6 B S_law_leans cdv A outer s H E hr)))))
theorem fs_law_out {f : Addr} {fd : FuncData} (F : Fun K "_law_out" "_law_out" s_law_out f fd) (hm : mg "_law_out" = some (.ref f)) (B : Bt mg) (S_law_leans : FS P w K mg base cl 1 "_law_leans" 3 m_law_leans) : FS P w K mg base cl 2 "_law_out" 4 m_law_out :=
  ⟨⟨f, fd, ["_law_parts", "_law_word", "_law_old", "_law_new"], ok_law_out F B S_law_leans, hm, F.kp, F.binds (ps := ["_law_parts", "_law_word", "_law_old", "_law_new"]) fun _ _ _ _ _ _ us hl => match us, hl with | [_, _, _, _], _ => rfl, rfl⟩, fun rs μ z h => mDef_ar rs μ z h⟩
end
end NS
set_option Elab.async false
set_option linter.all false
set_option maxRecDepth 100000
set_option maxHeartbeats 4000000
namespace NS
open PySem PySem.Spec PyProof.Rows L2 DL
section
variable {P : Program} {w : World} {K : PySem.W.Frag} {mg : Str → Option Value} {base : Heap} {cl : Nat → Addr}
theorem t_law_stays_0 {f : Addr} (B : Bt mg) (S_law_out : FS P w K mg base cl 2 "_law_out" 4 m_law_out) (cdv : Value) (A : Around) (outer : List Env) (s : Shared) (H : Hp) (E : XK) (hr : Room 2 (A.deeper (envOfC "_law_stays" (defScope s_law_stays) s.heap.objs.size f cdv))) :
    SS (cxOf CX0 P w K mg base ["_law_parts", "_law_word", "_law_row_so", "_law_found", "_law_own", "_law_its"] "_law_stays" (defScope s_law_stays) f cdv A outer s H E).nox cl ((defBody s_law_stays).getD 0 (.Pass ⟨0, 0, 0, 0⟩)) m_law_stays_0 := by
  exact (ss_setC (i := 3) sc_law_stays.nd (se_lst sa_nil))
theorem t_law_stays_3 {f : Addr} (B : Bt mg) (S_law_out : FS P w K mg base cl 2 "_law_out" 4 m_law_out) (cdv : Value) (A : Around) (outer : List Env) (s : Shared) (H : Hp) (E : XK) (hr : Room 2 (A.deeper (envOfC "_law_stays" (defScope s_law_stays) s.heap.objs.size f cdv))) :
    SS (cxOf CX0 P w K mg base ["_law_parts", "_law_word", "_law_row_so", "_law_found", "_law_own", "_law_its"] "_law_stays" (defScope s_law_stays) f cdv A outer s H E).nox cl ((sub1 ((sub1 ((defBody s_law_stays).getD 1 (.Pass ⟨0, 0, 0, 0⟩))).getD 0 (.Pass ⟨0, 0, 0, 0⟩))).getD 0 (.Pass ⟨0, 0, 0, 0⟩)) m_law_stays_3 := by
  exact (ss_expr (se_append (se_var (i := 3)) (sa_cons (se_var (i := 4)) sa_nil)))
theorem t_law_stays_4 {f : Addr} (B : Bt mg) (S_law_out : FS P w K mg base cl 2 "_law_out" 4 m_law_out) (cdv : Value) (A : Around) (outer : List Env) (s : Shared) (H : Hp) (E : XK) (hr : Room 2 (A.deeper (envOfC "_law_stays" (defScope s_law_stays) s.heap.objs.size f cdv))) :
    SS (cxOf CX0 P w K mg base ["_law_parts", "_law_word", "_law_row_so", "_law_found", "_law_own", "_law_its"] "_law_stays" (defScope s_law_stays) f cdv A outer s H E).nox cl ((sub1 ((defBody s_law_stays).getD 1 (.Pass ⟨0, 0, 0, 0⟩))).getD 0 (.Pass ⟨0, 0, 0, 0⟩)) m_law_stays_4 := by
  exact (ss_if (st_eq hr.units (se_lc (own := [("_law_its", 5)]) sc_law_stays.nd (si_seq (se_var (i := 3))) (sem_name (by decide)) (fun _ _ _ _ _ => (sg_name (cl := cl) (vs := [5]) (i := 5) sc_law_stays.nd).1) (fun _ _ _ _ _ => (stt_one (st_val (se_call S_law_out.x hr (by decide) (sa_cons (se_var (i := 0)) (sa_cons (se_var (i := 1)) (sa_cons (se_var (i := 5)) (sa_cons (se_var (i := 4)) sa_nil)))))))) (fun _ _ _ _ _ => (se_var (i := 5))) (blkOk_by (by kernel_rfl))) (se_lst sa_nil)) (sss_one (t_law_stays_3 B S_law_out cdv A outer s H E hr)) sss_nil)
theorem t_law_stays_5 {f : Addr} (B : Bt mg) (S_law_out : FS P w K mg base cl 2 "_law_out" 4 m_law_out) (cdv : Value) (A : Around) (outer : List Env) (s : Shared) (H : Hp) (E : XK) (hr : Room 2 (A.deeper (envOfC "_law_stays" (defScope s_law_stays) s.heap.objs.size f cdv))) :
    SS (cxOf CX0 P w K mg base ["_law_parts", "_law_word", "_law_row_so", "_law_found", "_law_own", "_law_its"] "_law_stays" (defScope s_law_stays) f cdv A outer s H E).nox cl ((defBody s_law_stays).getD 1 (.Pass ⟨0, 0, 0, 0⟩)) m_law_stays_5 := by
  exact (ss_for (si_seq (se_var (i := 2))) (sg_name (i := 4) (vs := [4]) sc_law_stays.nd) (sss_one (t_law_stays_4 B S_law_out cdv A outer s H E hr)))
theorem t_law_stays_6 {f : Addr} (B : Bt mg) (S_law_out : FS P w K mg base cl 2 "_law_out" 4 m_law_out) (cdv : Value) (A : Around) (outer : List Env) (s : Shared) (H : Hp) (E : XK) (hr : Room 2 (A.deeper (envOfC "_law_stays" (defScope s_law_stays) s.heap.objs.size f cdv))) :
    SS (cxOf CX0 P w K mg base ["_law_parts", "_law_word", "_law_row_so", "_law_found", "_law_own", "_law_its"] "_law_stays" (defScope s_law_stays) f cdv A outer s H E).nox cl ((defBody s_law_stays).getD 2 (.Pass ⟨0, 0, 0, 0⟩)) m_law_stays_6 := by
  exact (ss_ret (se_var (i := 3)))
theorem ok_law_stays {f : Addr} {fd : FuncData} (F : Fun K "_law_stays" "_law_stays" s_law_stays f fd) (B : Bt mg) (S_law_out : FS P w K mg base cl 2 "_law_out" 4 m_law_out) : FnOk P w K mg base CX0 3 f fd ["_law_parts", "_law_word", "_law_row_so"] (spM K cl 3 m_law_stays) := by
  refine def_ok (N := ["_law_parts", "_law_word", "_law_row_so", "_law_found", "_law_own", "_law_its"]) (n := 3) F sc_law_stays rfl (fun cdv A outer s H E hr => ?_)
  exact (sss_cons (t_law_stays_0 B S_law_out cdv A outer s H E hr)
    (sss_cons (t_law_stays_5 B S_law_out cdv A outer s H E hr)
    (sss_one (t_law_stays_6 B S_law_out cdv A outer s H E hr))))
theorem fs_law_stays {f : Addr} {fd : FuncData} (F : Fun K "_law_stays" "_law_stays" s_law_stays f fd) (hm : mg "_law_stays" = some (.ref f)) (B : Bt mg) (S_law_out : FS P w K mg base cl 2 "_law_out" 4 m_law_out) : FS P w K mg base cl 3 "_law_stays" 3 m_law_stays :=
  ⟨⟨f, fd, ["_law_parts", "_law_word", "_law_row_so"], ok_law_stays F B S_law_out, hm, F.kp, F.binds (ps := ["_law_parts", "_law_word", "_law_row_so"]) fun _ _ _ _ _ _ us hl => match us, hl with | [_, _, _], _ => rfl, rfl⟩, fun rs μ z h => mDef_ar rs μ z h⟩
end
end NS
set_option Elab.async false
set_option linter.all false
set_option maxRecDepth 100000
set_option maxHeartbeats 4000000
namespace NS
open PySem PySem.Spec PyProof.Rows L2 DL
section
variable {P : Program} {w : World} {K : PySem.W.Frag} {mg : Str → Option Value} {base : Heap} {cl : Nat → Addr}
theorem t_Lean_by_0 {f : Addr} (B : Bt mg) (S_Lean_init : FI P w K mg base cl 1 0 "Lean" 4 m_Lean_init) (cdv : Value) (A : Around) (outer : List Env) (s : Shared) (H : Hp) (E : XK) (hr : Room 2 (A.deeper (envOfC "Lean.by" (defScope s_Lean_by) s.heap.objs.size f cdv))) :
    SS (cxOf CX0 P w K mg base ["amount"] "Lean.by" (defScope s_Lean_by) f cdv A outer s H E).nox cl ((defBody s_Lean_by).getD 0 (.Pass ⟨0, 0, 0, 0⟩)) m_Lean_by_0 := by
  exact (ss_ret (se_make S_Lean_init hr (by decide) (sa_cons (se_var (i := 0)) (sa_cons se_int (sa_cons se_int sa_nil)))))
theorem ok_Lean_by {f : Addr} {fd : FuncData} (F : Fun K "by" "Lean.by" s_Lean_by f fd) (B : Bt mg) (S_Lean_init : FI P w K mg base cl 1 0 "Lean" 4 m_Lean_init) : FnOk P w K mg base CX0 3 f fd ["amount"] (spM K cl 1 m_Lean_by) := by
  refine def_ok (N := ["amount"]) (n := 1) F sc_Lean_by rfl (fun cdv A outer s H E hr => ?_)
  exact (sss_one (t_Lean_by_0 B S_Lean_init cdv A outer s H E hr))
theorem fa_Lean_by {f : Addr} {fd : FuncData} (F : Fun K "by" "Lean.by" s_Lean_by f fd) (B : Bt mg) (S_Lean_init : FI P w K mg base cl 1 0 "Lean" 4 m_Lean_init) : FA P w K mg base cl 3 f 1 m_Lean_by :=
  FA.of (ok_Lean_by F B S_Lean_init) (F.binds (ps := ["amount"]) fun _ _ _ _ _ _ us hl => match us, hl with | [_], _ => rfl) F.kp (fun rs μ z h => mDef_ar rs μ z h)
end
end NS
set_option Elab.async false
set_option linter.all false
set_option maxRecDepth 100000
set_option maxHeartbeats 4000000
namespace NS
open PySem PySem.Spec PyProof.Rows L2 DL
section
variable {P : Program} {w : World} {K : PySem.W.Frag} {mg : Str → Option Value} {base : Heap} {cl : Nat → Addr}
theorem t_law_right_0 {f : Addr} (B : Bt mg) (S_law_hand_right : FS P w K mg base cl 7 "_law_hand_right" 0 m_law_hand_right) (S_law_of : FS P w K mg base cl 2 "_law_of" 2 m_law_of) (S_law_values : FS P w K mg base cl 3 "_law_values" 2 m_law_values) (S_Lean_init : FI P w K mg base cl 1 0 "Lean" 4 m_Lean_init) (S_law_take : FS P w K mg base cl 1 "_law_take" 2 m_law_take) (S_law_stays : FS P w K mg base cl 3 "_law_stays" 3 m_law_stays) (K_kept_by_0 : FK P w K mg base cl 6 "kept_by" 3 m_kept_by 0 ["rule", "lean", "values"] [2, 1, 0]) (S_kept_by : FS P w K mg base cl 6 "kept_by" 3 m_kept_by) (S_law_same : FS P w K mg base cl 6 "_law_same" 2 (m_law_same 5)) (S_Lean_by : FT P w K mg base cl 3 "Lean" "by" 1 m_Lean_by) (cdv : Value) (A : Around) (outer : List Env) (s : Shared) (H : Hp) (E : XK) (hr : Room 7 (A.deeper (envOfC "_law_right" (defScope s_law_right) s.heap.objs.size f cdv))) :
    SS (cxOf CX0 P w K mg base ["_law_box_here", "_law_turn", "_law_share", "_law_parts", "_law_row_so", "_law_pull", "_law_far", "_law_word", "_law_due", "_law_soft", "_law_got", "_law_fixed"] "_law_right" (defScope s_law_right) f cdv A outer s H E).nox cl ((sub1 ((defBody s_law_right).getD 0 (.Pass ⟨0, 0, 0, 0⟩))).getD 0 (.Pass ⟨0, 0, 0, 0⟩)) m_law_right_0 := by
  exact (ss_ret se_bl)
theorem t_law_right_1 {f : Addr} (B : Bt mg) (S_law_hand_right : FS P w K mg base cl 7 "_law_hand_right" 0 m_law_hand_right) (S_law_of : FS P w K mg base cl 2 "_law_of" 2 m_law_of) (S_law_values : FS P w K mg base cl 3 "_law_values" 2 m_law_values) (S_Lean_init : FI P w K mg base cl 1 0 "Lean" 4 m_Lean_init) (S_law_take : FS P w K mg base cl 1 "_law_take" 2 m_law_take) (S_law_stays : FS P w K mg base cl 3 "_law_stays" 3 m_law_stays) (K_kept_by_0 : FK P w K mg base cl 6 "kept_by" 3 m_kept_by 0 ["rule", "lean", "values"] [2, 1, 0]) (S_kept_by : FS P w K mg base cl 6 "kept_by" 3 m_kept_by) (S_law_same : FS P w K mg base cl 6 "_law_same" 2 (m_law_same 5)) (S_Lean_by : FT P w K mg base cl 3 "Lean" "by" 1 m_Lean_by) (cdv : Value) (A : Around) (outer : List Env) (s : Shared) (H : Hp) (E : XK) (hr : Room 7 (A.deeper (envOfC "_law_right" (defScope s_law_right) s.heap.objs.size f cdv))) :
    SS (cxOf CX0 P w K mg base ["_law_box_here", "_law_turn", "_law_share", "_law_parts", "_law_row_so", "_law_pull", "_law_far", "_law_word", "_law_due", "_law_soft", "_law_got", "_law_fixed"] "_law_right" (defScope s_law_right) f cdv A outer s H E).nox cl ((defBody s_law_right).getD 0 (.Pass ⟨0, 0, 0, 0⟩)) m_law_right_1 := by
  exact (ss_if (st_not (st_val (se_call0 S_law_hand_right.x hr (by decide)))) (sss_one (t_law_right_0 B S_law_hand_right S_law_of S_law_values S_Lean_init S_law_take S_law_stays K_kept_by_0 S_kept_by S_law_same S_Lean_by cdv A outer s H E hr)) sss_nil)
theorem t_law_right_2 {f : Addr} (B : Bt mg) (S_law_hand_right : FS P w K mg base cl 7 "_law_hand_right" 0 m_law_hand_right) (S_law_of : FS P w K mg base cl 2 "_law_of" 2 m_law_of) (S_law_values : FS P w K mg base cl 3 "_law_values" 2 m_law_values) (S_Lean_init : FI P w K mg base cl 1 0 "Lean" 4 m_Lean_init) (S_law_take : FS P w K mg base cl 1 "_law_take" 2 m_law_take) (S_law_stays : FS P w K mg base cl 3 "_law_stays" 3 m_law_stays) (K_kept_by_0 : FK P w K mg base cl 6 "kept_by" 3 m_kept_by 0 ["rule", "lean", "values"] [2, 1, 0]) (S_kept_by : FS P w K mg base cl 6 "kept_by" 3 m_kept_by) (S_law_same : FS P w K mg base cl 6 "_law_same" 2 (m_law_same 5)) (S_Lean_by : FT P w K mg base cl 3 "Lean" "by" 1 m_Lean_by) (cdv : Value) (A : Around) (outer : List Env) (s : Shared) (H : Hp) (E : XK) (hr : Room 7 (A.deeper (envOfC "_law_right" (defScope s_law_right) s.heap.objs.size f cdv))) :
    SS (cxOf CX0 P w K mg base ["_law_box_here", "_law_turn", "_law_share", "_law_parts", "_law_row_so", "_law_pull", "_law_far", "_law_word", "_law_due", "_law_soft", "_law_got", "_law_fixed"] "_law_right" (defScope s_law_right) f cdv A outer s H E).nox cl ((sub1 ((defBody s_law_right).getD 1 (.Pass ⟨0, 0, 0, 0⟩))).getD 0 (.Pass ⟨0, 0, 0, 0⟩)) m_law_right_2 := by
  exact (ss_set (i := 2) sc_law_right.nd (se_call S_law_of.x hr (by decide) (sa_cons (se_var (i := 0)) (sa_cons (se_lst (sa_cons (se_tup (sa_cons se_int (sa_cons se_int sa_nil))) (sa_cons (se_tup (sa_cons se_int (sa_cons se_int sa_nil))) (sa_cons (se_tup (sa_cons se_int (sa_cons se_int sa_nil))) (sa_cons (se_tup (sa_cons se_int (sa_cons se_int sa_nil))) (sa_cons (se_tup (sa_cons se_int (sa_cons se_int sa_nil))) (sa_cons (se_tup (sa_cons se_int (sa_cons se_int sa_nil))) (sa_cons (se_tup (sa_cons se_int (sa_cons se_int sa_nil))) sa_nil)))))))) sa_nil))))
theorem t_law_right_3 {f : Addr} (B : Bt mg) (S_law_hand_right : FS P w K mg base cl 7 "_law_hand_right" 0 m_law_hand_right) (S_law_of : FS P w K mg base cl 2 "_law_of" 2 m_law_of) (S_law_values : FS P w K mg base cl 3 "_law_values" 2 m_law_values) (S_Lean_init : FI P w K mg base cl 1 0 "Lean" 4 m_Lean_init) (S_law_take : FS P w K mg base cl 1 "_law_take" 2 m_law_take) (S_law_stays : FS P w K mg base cl 3 "_law_stays" 3 m_law_stays) (K_kept_by_0 : FK P w K mg base cl 6 "kept_by" 3 m_kept_by 0 ["rule", "lean", "values"] [2, 1, 0]) (S_kept_by : FS P w K mg base cl 6 "kept_by" 3 m_kept_by) (S_law_same : FS P w K mg base cl 6 "_law_same" 2 (m_law_same 5)) (S_Lean_by : FT P w K mg base cl 3 "Lean" "by" 1 m_Lean_by) (cdv : Value) (A : Around) (outer : List Env) (s : Shared) (H : Hp) (E : XK) (hr : Room 7 (A.deeper (envOfC "_law_right" (defScope s_law_right) s.heap.objs.size f cdv))) :
    SS (cxOf CX0 P w K mg base ["_law_box_here", "_law_turn", "_law_share", "_law_parts", "_law_row_so", "_law_pull", "_law_far", "_law_word", "_law_due", "_law_soft", "_law_got", "_law_fixed"] "_law_right" (defScope s_law_right) f cdv A outer s H E).nox cl ((sub1 ((defBody s_law_right).getD 1 (.Pass ⟨0, 0, 0, 0⟩))).getD 1 (.Pass ⟨0, 0, 0, 0⟩)) m_law_right_3 := by
  exact (ss_par (ci := false) (cj := false) (i := 3) (j := 4) sc_law_right.nd (se_tup (sa_cons (se_call S_law_of.x hr (by decide) (sa_cons (se_var (i := 0)) (sa_cons (se_lst (sa_cons se_int (sa_cons se_int (sa_cons se_int (sa_cons se_int sa_nil))))) sa_nil))) (sa_cons (se_ix (se_var (i := 2)) se_int) (sa_cons (se_ix (se_var (i := 2)) se_int) sa_nil)))) (se_call S_law_values.x hr (by decide) (sa_cons (se_var (i := 0)) (sa_cons se_int sa_nil))))
theorem t_law_right_4 {f : Addr} (B : Bt mg) (S_law_hand_right : FS P w K mg base cl 7 "_law_hand_right" 0 m_law_hand_right) (S_law_of : FS P w K mg base cl 2 "_law_of" 2 m_law_of) (S_law_values : FS P w K mg base cl 3 "_law_values" 2 m_law_values) (S_Lean_init : FI P w K mg base cl 1 0 "Lean" 4 m_Lean_init) (S_law_take : FS P w K mg base cl 1 "_law_take" 2 m_law_take) (S_law_stays : FS P w K mg base cl 3 "_law_stays" 3 m_law_stays) (K_kept_by_0 : FK P w K mg base cl 6 "kept_by" 3 m_kept_by 0 ["rule", "lean", "values"] [2, 1, 0]) (S_kept_by : FS P w K mg base cl 6 "kept_by" 3 m_kept_by) (S_law_same : FS P w K mg base cl 6 "_law_same" 2 (m_law_same 5)) (S_Lean_by : FT P w K mg base cl 3 "Lean" "by" 1 m_Lean_by) (cdv : Value) (A : Around) (outer : List Env) (s : Shared) (H : Hp) (E : XK) (hr : Room 7 (A.deeper (envOfC "_law_right" (defScope s_law_right) s.heap.objs.size f cdv))) :
    SS (cxOf CX0 P w K mg base ["_law_box_here", "_law_turn", "_law_share", "_law_parts", "_law_row_so", "_law_pull", "_law_far", "_law_word", "_law_due", "_law_soft", "_law_got", "_law_fixed"] "_law_right" (defScope s_law_right) f cdv A outer s H E).nox cl ((sub1 ((defBody s_law_right).getD 1 (.Pass ⟨0, 0, 0, 0⟩))).getD 2 (.Pass ⟨0, 0, 0, 0⟩)) m_law_right_4 := by
  exact (ss_par (ci := false) (cj := false) (i := 5) (j := 6) sc_law_right.nd (se_make S_Lean_init hr (by decide) (sa_cons (se_ix (se_var (i := 3)) se_int) (sa_cons (se_ix (se_var (i := 3)) se_int) (sa_cons (se_ix (se_var (i := 3)) se_int) sa_nil)))) (se_call S_law_take.x hr (by decide) (sa_cons (se_var (i := 0)) (sa_cons se_int sa_nil))))
theorem t_law_right_5 {f : Addr} (B : Bt mg) (S_law_hand_right : FS P w K mg base cl 7 "_law_hand_right" 0 m_law_hand_right) (S_law_of : FS P w K mg base cl 2 "_law_of" 2 m_law_of) (S_law_values : FS P w K mg base cl 3 "_law_values" 2 m_law_values) (S_Lean_init : FI P w K mg base cl 1 0 "Lean" 4 m_Lean_init) (S_law_take : FS P w K mg base cl 1 "_law_take" 2 m_law_take) (S_law_stays : FS P w K mg base cl 3 "_law_stays" 3 m_law_stays) (K_kept_by_0 : FK P w K mg base cl 6 "kept_by" 3 m_kept_by 0 ["rule", "lean", "values"] [2, 1, 0]) (S_kept_by : FS P w K mg base cl 6 "kept_by" 3 m_kept_by) (S_law_same : FS P w K mg base cl 6 "_law_same" 2 (m_law_same 5)) (S_Lean_by : FT P w K mg base cl 3 "Lean" "by" 1 m_Lean_by) (cdv : Value) (A : Around) (outer : List Env) (s : Shared) (H : Hp) (E : XK) (hr : Room 7 (A.deeper (envOfC "_law_right" (defScope s_law_right) s.heap.objs.size f cdv))) :
    SS (cxOf CX0 P w K mg base ["_law_box_here", "_law_turn", "_law_share", "_law_parts", "_law_row_so", "_law_pull", "_law_far", "_law_word", "_law_due", "_law_soft", "_law_got", "_law_fixed"] "_law_right" (defScope s_law_right) f cdv A outer s H E).nox cl ((sub1 ((sub1 ((defBody s_law_right).getD 1 (.Pass ⟨0, 0, 0, 0⟩))).getD 3 (.Pass ⟨0, 0, 0, 0⟩))).getD 0 (.Pass ⟨0, 0, 0, 0⟩)) m_law_right_5 := by
  exact (ss_par (ci := false) (cj := false) (i := 8) (j := 9) sc_law_right.nd (se_call S_law_stays.x hr (by decide) (sa_cons (se_var (i := 3)) (sa_cons (se_var (i := 7)) (sa_cons (se_var (i := 4)) sa_nil)))) (se_list B.list (sa_cons (se_var (i := 4)) sa_nil)))
theorem t_law_right_6 {f : Addr} (B : Bt mg) (S_law_hand_right : FS P w K mg base cl 7 "_law_hand_right" 0 m_law_hand_right) (S_law_of : FS P w K mg base cl 2 "_law_of" 2 m_law_of) (S_law_values : FS P w K mg base cl 3 "_law_values" 2 m_law_values) (S_Lean_init : FI P w K mg base cl 1 0 "Lean" 4 m_Lean_init) (S_law_take : FS P w K mg base cl 1 "_law_take" 2 m_law_take) (S_law_stays : FS P w K mg base cl 3 "_law_stays" 3 m_law_stays) (K_kept_by_0 : FK P w K mg base cl 6 "kept_by" 3 m_kept_by 0 ["rule", "lean", "values"] [2, 1, 0]) (S_kept_by : FS P w K mg base cl 6 "kept_by" 3 m_kept_by) (S_law_same : FS P w K mg base cl 6 "_law_same" 2 (m_law_same 5)) (S_Lean_by : FT P w K mg base cl 3 "Lean" "by" 1 m_Lean_by) (cdv : Value) (A : Around) (outer : List Env) (s : Shared) (H : Hp) (E : XK) (hr : Room 7 (A.deeper (envOfC "_law_right" (defScope s_law_right) s.heap.objs.size f cdv))) :
    SS (cxOf CX0 P w K mg base ["_law_box_here", "_law_turn", "_law_share", "_law_parts", "_law_row_so", "_law_pull", "_law_far", "_law_word", "_law_due", "_law_soft", "_law_got", "_law_fixed"] "_law_right" (defScope s_law_right) f cdv A outer s H E).nox cl ((sub1 ((sub1 ((defBody s_law_right).getD 1 (.Pass ⟨0, 0, 0, 0⟩))).getD 3 (.Pass ⟨0, 0, 0, 0⟩))).getD 1 (.Pass ⟨0, 0, 0, 0⟩)) m_law_right_6 := by
  exact (ss_setN (i := 10) sc_law_right.nd (sv_cons (se_call S_kept_by.x hr (by decide) (sa_cons (se_var (i := 4)) (sa_cons (se_var (i := 5)) (sa_cons (se_var (i := 7)) sa_nil)))) (sv_cons (se_callK0 K_kept_by_0.x hr (by decide) (sk_cons (se_var (i := 7)) (sk_cons (se_var (i := 5)) (sk_cons (se_var (i := 9)) sk_nil)))) sv_nil)))
theorem t_law_right_7 {f : Addr} (B : Bt mg) (S_law_hand_right : FS P w K mg base cl 7 "_law_hand_right" 0 m_law_hand_right) (S_law_of : FS P w K mg base cl 2 "_law_of" 2 m_law_of) (S_law_values : FS P w K mg base cl 3 "_law_values" 2 m_law_values) (S_Lean_init : FI P w K mg base cl 1 0 "Lean" 4 m_Lean_init) (S_law_take : FS P w K mg base cl 1 "_law_take" 2 m_law_take) (S_law_stays : FS P w K mg base cl 3 "_law_stays" 3 m_law_stays) (K_kept_by_0 : FK P w K mg base cl 6 "kept_by" 3 m_kept_by 0 ["rule", "lean", "values"] [2, 1, 0]) (S_kept_by : FS P w K mg base cl 6 "kept_by" 3 m_kept_by) (S_law_same : FS P w K mg base cl 6 "_law_same" 2 (m_law_same 5)) (S_Lean_by : FT P w K mg base cl 3 "Lean" "by" 1 m_Lean_by) (cdv : Value) (A : Around) (outer : List Env) (s : Shared) (H : Hp) (E : XK) (hr : Room 7 (A.deeper (envOfC "_law_right" (defScope s_law_right) s.heap.objs.size f cdv))) :
    SS (cxOf CX0 P w K mg base ["_law_box_here", "_law_turn", "_law_share", "_law_parts", "_law_row_so", "_law_pull", "_law_far", "_law_word", "_law_due", "_law_soft", "_law_got", "_law_fixed"] "_law_right" (defScope s_law_right) f cdv A outer s H E).nox cl ((sub1 ((sub1 ((sub1 ((defBody s_law_right).getD 1 (.Pass ⟨0, 0, 0, 0⟩))).getD 3 (.Pass ⟨0, 0, 0, 0⟩))).getD 2 (.Pass ⟨0, 0, 0, 0⟩))).getD 0 (.Pass ⟨0, 0, 0, 0⟩)) m_law_right_7 := by
  exact (ss_ret se_bl)
theorem t_law_right_8 {f : Addr} (B : Bt mg) (S_law_hand_right : FS P w K mg base cl 7 "_law_hand_right" 0 m_law_hand_right) (S_law_of : FS P w K mg base cl 2 "_law_of" 2 m_law_of) (S_law_values : FS P w K mg base cl 3 "_law_values" 2 m_law_values) (S_Lean_init : FI P w K mg base cl 1 0 "Lean" 4 m_Lean_init) (S_law_take : FS P w K mg base cl 1 "_law_take" 2 m_law_take) (S_law_stays : FS P w K mg base cl 3 "_law_stays" 3 m_law_stays) (K_kept_by_0 : FK P w K mg base cl 6 "kept_by" 3 m_kept_by 0 ["rule", "lean", "values"] [2, 1, 0]) (S_kept_by : FS P w K mg base cl 6 "kept_by" 3 m_kept_by) (S_law_same : FS P w K mg base cl 6 "_law_same" 2 (m_law_same 5)) (S_Lean_by : FT P w K mg base cl 3 "Lean" "by" 1 m_Lean_by) (cdv : Value) (A : Around) (outer : List Env) (s : Shared) (H : Hp) (E : XK) (hr : Room 7 (A.deeper (envOfC "_law_right" (defScope s_law_right) s.heap.objs.size f cdv))) :
    SS (cxOf CX0 P w K mg base ["_law_box_here", "_law_turn", "_law_share", "_law_parts", "_law_row_so", "_law_pull", "_law_far", "_law_word", "_law_due", "_law_soft", "_law_got", "_law_fixed"] "_law_right" (defScope s_law_right) f cdv A outer s H E).nox cl ((sub1 ((sub1 ((defBody s_law_right).getD 1 (.Pass ⟨0, 0, 0, 0⟩))).getD 3 (.Pass ⟨0, 0, 0, 0⟩))).getD 2 (.Pass ⟨0, 0, 0, 0⟩)) m_law_right_8 := by
  exact (ss_if (st_w (sw_or (st_not (st_val (se_callW S_law_same hr (by decide) (sv_cons (se_var (i := 10)) (sv_cons (se_lst (sa_cons (se_var (i := 8)) (sa_cons (se_var (i := 8)) sa_nil))) sv_nil))))) (sw_or1 (st_ne hr.units (se_var (i := 9)) (se_list B.list (sa_cons (se_var (i := 4)) sa_nil)))))) (sss_one (t_law_right_7 B S_law_hand_right S_law_of S_law_values S_Lean_init S_law_take S_law_stays K_kept_by_0 S_kept_by S_law_same S_Lean_by cdv A outer s H E hr)) sss_nil)
theorem t_law_right_9 {f : Addr} (B : Bt mg) (S_law_hand_right : FS P w K mg base cl 7 "_law_hand_right" 0 m_law_hand_right) (S_law_of : FS P w K mg base cl 2 "_law_of" 2 m_law_of) (S_law_values : FS P w K mg base cl 3 "_law_values" 2 m_law_values) (S_Lean_init : FI P w K mg base cl 1 0 "Lean" 4 m_Lean_init) (S_law_take : FS P w K mg base cl 1 "_law_take" 2 m_law_take) (S_law_stays : FS P w K mg base cl 3 "_law_stays" 3 m_law_stays) (K_kept_by_0 : FK P w K mg base cl 6 "kept_by" 3 m_kept_by 0 ["rule", "lean", "values"] [2, 1, 0]) (S_kept_by : FS P w K mg base cl 6 "kept_by" 3 m_kept_by) (S_law_same : FS P w K mg base cl 6 "_law_same" 2 (m_law_same 5)) (S_Lean_by : FT P w K mg base cl 3 "Lean" "by" 1 m_Lean_by) (cdv : Value) (A : Around) (outer : List Env) (s : Shared) (H : Hp) (E : XK) (hr : Room 7 (A.deeper (envOfC "_law_right" (defScope s_law_right) s.heap.objs.size f cdv))) :
    SS (cxOf CX0 P w K mg base ["_law_box_here", "_law_turn", "_law_share", "_law_parts", "_law_row_so", "_law_pull", "_law_far", "_law_word", "_law_due", "_law_soft", "_law_got", "_law_fixed"] "_law_right" (defScope s_law_right) f cdv A outer s H E).nox cl ((sub1 ((sub1 ((defBody s_law_right).getD 1 (.Pass ⟨0, 0, 0, 0⟩))).getD 3 (.Pass ⟨0, 0, 0, 0⟩))).getD 3 (.Pass ⟨0, 0, 0, 0⟩)) m_law_right_9 := by
  exact (ss_expr (se_append (se_ixN (se_var (i := 10)) se_int) (sa_cons se_str sa_nil)))
theorem t_law_right_10 {f : Addr} (B : Bt mg) (S_law_hand_right : FS P w K mg base cl 7 "_law_hand_right" 0 m_law_hand_right) (S_law_of : FS P w K mg base cl 2 "_law_of" 2 m_law_of) (S_law_values : FS P w K mg base cl 3 "_law_values" 2 m_law_values) (S_Lean_init : FI P w K mg base cl 1 0 "Lean" 4 m_Lean_init) (S_law_take : FS P w K mg base cl 1 "_law_take" 2 m_law_take) (S_law_stays : FS P w K mg base cl 3 "_law_stays" 3 m_law_stays) (K_kept_by_0 : FK P w K mg base cl 6 "kept_by" 3 m_kept_by 0 ["rule", "lean", "values"] [2, 1, 0]) (S_kept_by : FS P w K mg base cl 6 "kept_by" 3 m_kept_by) (S_law_same : FS P w K mg base cl 6 "_law_same" 2 (m_law_same 5)) (S_Lean_by : FT P w K mg base cl 3 "Lean" "by" 1 m_Lean_by) (cdv : Value) (A : Around) (outer : List Env) (s : Shared) (H : Hp) (E : XK) (hr : Room 7 (A.deeper (envOfC "_law_right" (defScope s_law_right) s.heap.objs.size f cdv))) :
    SS (cxOf CX0 P w K mg base ["_law_box_here", "_law_turn", "_law_share", "_law_parts", "_law_row_so", "_law_pull", "_law_far", "_law_word", "_law_due", "_law_soft", "_law_got", "_law_fixed"] "_law_right" (defScope s_law_right) f cdv A outer s H E).nox cl ((sub1 ((sub1 ((defBody s_law_right).getD 1 (.Pass ⟨0, 0, 0, 0⟩))).getD 3 (.Pass ⟨0, 0, 0, 0⟩))).getD 4 (.Pass ⟨0, 0, 0, 0⟩)) m_law_right_10 := by
  exact (ss_set (i := 11) sc_law_right.nd (se_call S_law_stays.x hr (by decide) (sa_cons (se_tup (sa_cons (se_var (i := 6)) (sa_cons se_int (sa_cons se_int sa_nil)))) (sa_cons se_str (sa_cons (se_var (i := 4)) sa_nil)))))
theorem t_law_right_11 {f : Addr} (B : Bt mg) (S_law_hand_right : FS P w K mg base cl 7 "_law_hand_right" 0 m_law_hand_right) (S_law_of : FS P w K mg base cl 2 "_law_of" 2 m_law_of) (S_law_values : FS P w K mg base cl 3 "_law_values" 2 m_law_values) (S_Lean_init : FI P w K mg base cl 1 0 "Lean" 4 m_Lean_init) (S_law_take : FS P w K mg base cl 1 "_law_take" 2 m_law_take) (S_law_stays : FS P w K mg base cl 3 "_law_stays" 3 m_law_stays) (K_kept_by_0 : FK P w K mg base cl 6 "kept_by" 3 m_kept_by 0 ["rule", "lean", "values"] [2, 1, 0]) (S_kept_by : FS P w K mg base cl 6 "kept_by" 3 m_kept_by) (S_law_same : FS P w K mg base cl 6 "_law_same" 2 (m_law_same 5)) (S_Lean_by : FT P w K mg base cl 3 "Lean" "by" 1 m_Lean_by) (cdv : Value) (A : Around) (outer : List Env) (s : Shared) (H : Hp) (E : XK) (hr : Room 7 (A.deeper (envOfC "_law_right" (defScope s_law_right) s.heap.objs.size f cdv))) :
    SS (cxOf CX0 P w K mg base ["_law_box_here", "_law_turn", "_law_share", "_law_parts", "_law_row_so", "_law_pull", "_law_far", "_law_word", "_law_due", "_law_soft", "_law_got", "_law_fixed"] "_law_right" (defScope s_law_right) f cdv A outer s H E).nox cl ((sub1 ((sub1 ((sub1 ((defBody s_law_right).getD 1 (.Pass ⟨0, 0, 0, 0⟩))).getD 3 (.Pass ⟨0, 0, 0, 0⟩))).getD 5 (.Pass ⟨0, 0, 0, 0⟩))).getD 0 (.Pass ⟨0, 0, 0, 0⟩)) m_law_right_11 := by
  exact (ss_ret se_bl)
theorem t_law_right_12 {f : Addr} (B : Bt mg) (S_law_hand_right : FS P w K mg base cl 7 "_law_hand_right" 0 m_law_hand_right) (S_law_of : FS P w K mg base cl 2 "_law_of" 2 m_law_of) (S_law_values : FS P w K mg base cl 3 "_law_values" 2 m_law_values) (S_Lean_init : FI P w K mg base cl 1 0 "Lean" 4 m_Lean_init) (S_law_take : FS P w K mg base cl 1 "_law_take" 2 m_law_take) (S_law_stays : FS P w K mg base cl 3 "_law_stays" 3 m_law_stays) (K_kept_by_0 : FK P w K mg base cl 6 "kept_by" 3 m_kept_by 0 ["rule", "lean", "values"] [2, 1, 0]) (S_kept_by : FS P w K mg base cl 6 "kept_by" 3 m_kept_by) (S_law_same : FS P w K mg base cl 6 "_law_same" 2 (m_law_same 5)) (S_Lean_by : FT P w K mg base cl 3 "Lean" "by" 1 m_Lean_by) (cdv : Value) (A : Around) (outer : List Env) (s : Shared) (H : Hp) (E : XK) (hr : Room 7 (A.deeper (envOfC "_law_right" (defScope s_law_right) s.heap.objs.size f cdv))) :
    SS (cxOf CX0 P w K mg base ["_law_box_here", "_law_turn", "_law_share", "_law_parts", "_law_row_so", "_law_pull", "_law_far", "_law_word", "_law_due", "_law_soft", "_law_got", "_law_fixed"] "_law_right" (defScope s_law_right) f cdv A outer s H E).nox cl ((sub1 ((sub1 ((defBody s_law_right).getD 1 (.Pass ⟨0, 0, 0, 0⟩))).getD 3 (.Pass ⟨0, 0, 0, 0⟩))).getD 5 (.Pass ⟨0, 0, 0, 0⟩)) m_law_right_12 := by
  exact (ss_if (st_not (st_val (se_call S_law_same.x hr (by decide) (sa_cons (se_lst (sa_cons (se_call S_kept_by.x hr (by decide) (sa_cons (se_var (i := 4)) (sa_cons (se_var (i := 5)) (sa_cons (se_var (i := 7)) sa_nil)))) (sa_cons (se_call S_kept_by.x hr (by decide) (sa_cons (se_var (i := 4)) (sa_cons (se_static S_Lean_by.x hr (by decide) (sa_cons (se_var (i := 6)) sa_nil)) (sa_cons (se_var (i := 7)) sa_nil)))) sa_nil))) (sa_cons (se_lst (sa_cons (se_var (i := 8)) (sa_cons (se_var (i := 11)) sa_nil))) sa_nil))))) (sss_one (t_law_right_11 B S_law_hand_right S_law_of S_law_values S_Lean_init S_law_take S_law_stays K_kept_by_0 S_kept_by S_law_same S_Lean_by cdv A outer s H E hr)) sss_nil)
theorem t_law_right_14 {f : Addr} (B : Bt mg) (S_law_hand_right : FS P w K mg base cl 7 "_law_hand_right" 0 m_law_hand_right) (S_law_of : FS P w K mg base cl 2 "_law_of" 2 m_law_of) (S_law_values : FS P w K mg base cl 3 "_law_values" 2 m_law_values) (S_Lean_init : FI P w K mg base cl 1 0 "Lean" 4 m_Lean_init) (S_law_take : FS P w K mg base cl 1 "_law_take" 2 m_law_take) (S_law_stays : FS P w K mg base cl 3 "_law_stays" 3 m_law_stays) (K_kept_by_0 : FK P w K mg base cl 6 "kept_by" 3 m_kept_by 0 ["rule", "lean", "values"] [2, 1, 0]) (S_kept_by : FS P w K mg base cl 6 "kept_by" 3 m_kept_by) (S_law_same : FS P w K mg base cl 6 "_law_same" 2 (m_law_same 5)) (S_Lean_by : FT P w K mg base cl 3 "Lean" "by" 1 m_Lean_by) (cdv : Value) (A : Around) (outer : List Env) (s : Shared) (H : Hp) (E : XK) (hr : Room 7 (A.deeper (envOfC "_law_right" (defScope s_law_right) s.heap.objs.size f cdv))) :
    SS (cxOf CX0 P w K mg base ["_law_box_here", "_law_turn", "_law_share", "_law_parts", "_law_row_so", "_law_pull", "_law_far", "_law_word", "_law_due", "_law_soft", "_law_got", "_law_fixed"] "_law_right" (defScope s_law_right) f cdv A outer s H E).nox cl ((sub1 ((defBody s_law_right).getD 1 (.Pass ⟨0, 0, 0, 0⟩))).getD 3 (.Pass ⟨0, 0, 0, 0⟩)) m_law_right_14 := by
  exact (ss_for (si_seq (se_tup (sa_cons se_str (sa_cons se_str (sa_cons se_str (sa_cons se_str sa_nil)))))) (sg_name (i := 7) (vs := [7]) sc_law_right.nd) (sss_cons (t_law_right_5 B S_law_hand_right S_law_of S_law_values S_Lean_init S_law_take S_law_stays K_kept_by_0 S_kept_by S_law_same S_Lean_by cdv A outer s H E hr)
    (sss_cons (t_law_right_6 B S_law_hand_right S_law_of S_law_values S_Lean_init S_law_take S_law_stays K_kept_by_0 S_kept_by S_law_same S_Lean_by cdv A outer s H E hr)
    (sss_cons (t_law_right_8 B S_law_hand_right S_law_of S_law_values S_Lean_init S_law_take S_law_stays K_kept_by_0 S_kept_by S_law_same S_Lean_by cdv A outer s H E hr)
    (sss_cons (t_law_right_9 B S_law_hand_right S_law_of S_law_values S_Lean_init S_law_take S_law_stays K_kept_by_0 S_kept_by S_law_same S_Lean_by cdv A outer s H E hr)
    (sss_cons (t_law_right_10 B S_law_hand_right S_law_of S_law_values S_Lean_init S_law_take S_law_stays K_kept_by_0 S_kept_by S_law_same S_Lean_by cdv A outer s H E hr)
    (sss_one (t_law_right_12 B S_law_hand_right S_law_of S_law_values S_Lean_init S_law_take S_law_stays K_kept_by_0 S_kept_by S_law_same S_Lean_by cdv A outer s H E hr))))))))
theorem t_law_right_16 {f : Addr} (B : Bt mg) (S_law_hand_right : FS P w K mg base cl 7 "_law_hand_right" 0 m_law_hand_right) (S_law_of : FS P w K mg base cl 2 "_law_of" 2 m_law_of) (S_law_values : FS P w K mg base cl 3 "_law_values" 2 m_law_values) (S_Lean_init : FI P w K mg base cl 1 0 "Lean" 4 m_Lean_init) (S_law_take : FS P w K mg base cl 1 "_law_take" 2 m_law_take) (S_law_stays : FS P w K mg base cl 3 "_law_stays" 3 m_law_stays) (K_kept_by_0 : FK P w K mg base cl 6 "kept_by" 3 m_kept_by 0 ["rule", "lean", "values"] [2, 1, 0]) (S_kept_by : FS P w K mg base cl 6 "kept_by" 3 m_kept_by) (S_law_same : FS P w K mg base cl 6 "_law_same" 2 (m_law_same 5)) (S_Lean_by : FT P w K mg base cl 3 "Lean" "by" 1 m_Lean_by) (cdv : Value) (A : Around) (outer : List Env) (s : Shared) (H : Hp) (E : XK) (hr : Room 7 (A.deeper (envOfC "_law_right" (defScope s_law_right) s.heap.objs.size f cdv))) :
    SS (cxOf CX0 P w K mg base ["_law_box_here", "_law_turn", "_law_share", "_law_parts", "_law_row_so", "_law_pull", "_law_far", "_law_word", "_law_due", "_law_soft", "_law_got", "_law_fixed"] "_law_right" (defScope s_law_right) f cdv A outer s H E).nox cl ((defBody s_law_right).getD 1 (.Pass ⟨0, 0, 0, 0⟩)) m_law_right_16 := by
  exact (ss_for (si_range1 B.range (sa_cons se_int sa_nil)) (sg_name (i := 1) (vs := [1]) sc_law_right.nd) (sss_cons (t_law_right_2 B S_law_hand_right S_law_of S_law_values S_Lean_init S_law_take S_law_stays K_kept_by_0 S_kept_by S_law_same S_Lean_by cdv A outer s H E hr)
    (sss_cons (t_law_right_3 B S_law_hand_right S_law_of S_law_values S_Lean_init S_law_take S_law_stays K_kept_by_0 S_kept_by S_law_same S_Lean_by cdv A outer s H E hr)
    (sss_cons (t_law_right_4 B S_law_hand_right S_law_of S_law_values S_Lean_init S_law_take S_law_stays K_kept_by_0 S_kept_by S_law_same S_Lean_by cdv A outer s H E hr)
    (sss_one (t_law_right_14 B S_law_hand_right S_law_of S_law_values S_Lean_init S_law_take S_law_stays K_kept_by_0 S_kept_by S_law_same S_Lean_by cdv A outer s H E hr))))))
theorem t_law_right_17 {f : Addr} (B : Bt mg) (S_law_hand_right : FS P w K mg base cl 7 "_law_hand_right" 0 m_law_hand_right) (S_law_of : FS P w K mg base cl 2 "_law_of" 2 m_law_of) (S_law_values : FS P w K mg base cl 3 "_law_values" 2 m_law_values) (S_Lean_init : FI P w K mg base cl 1 0 "Lean" 4 m_Lean_init) (S_law_take : FS P w K mg base cl 1 "_law_take" 2 m_law_take) (S_law_stays : FS P w K mg base cl 3 "_law_stays" 3 m_law_stays) (K_kept_by_0 : FK P w K mg base cl 6 "kept_by" 3 m_kept_by 0 ["rule", "lean", "values"] [2, 1, 0]) (S_kept_by : FS P w K mg base cl 6 "kept_by" 3 m_kept_by) (S_law_same : FS P w K mg base cl 6 "_law_same" 2 (m_law_same 5)) (S_Lean_by : FT P w K mg base cl 3 "Lean" "by" 1 m_Lean_by) (cdv : Value) (A : Around) (outer : List Env) (s : Shared) (H : Hp) (E : XK) (hr : Room 7 (A.deeper (envOfC "_law_right" (defScope s_law_right) s.heap.objs.size f cdv))) :
    SS (cxOf CX0 P w K mg base ["_law_box_here", "_law_turn", "_law_share", "_law_parts", "_law_row_so", "_law_pull", "_law_far", "_law_word", "_law_due", "_law_soft", "_law_got", "_law_fixed"] "_law_right" (defScope s_law_right) f cdv A outer s H E).nox cl ((defBody s_law_right).getD 2 (.Pass ⟨0, 0, 0, 0⟩)) m_law_right_17 := by
  exact (ss_ret se_bl)
theorem ok_law_right {f : Addr} {fd : FuncData} (F : Fun K "_law_right" "_law_right" s_law_right f fd) (B : Bt mg) (S_law_hand_right : FS P w K mg base cl 7 "_law_hand_right" 0 m_law_hand_right) (S_law_of : FS P w K mg base cl 2 "_law_of" 2 m_law_of) (S_law_values : FS P w K mg base cl 3 "_law_values" 2 m_law_values) (S_Lean_init : FI P w K mg base cl 1 0 "Lean" 4 m_Lean_init) (S_law_take : FS P w K mg base cl 1 "_law_take" 2 m_law_take) (S_law_stays : FS P w K mg base cl 3 "_law_stays" 3 m_law_stays) (K_kept_by_0 : FK P w K mg base cl 6 "kept_by" 3 m_kept_by 0 ["rule", "lean", "values"] [2, 1, 0]) (S_kept_by : FS P w K mg base cl 6 "kept_by" 3 m_kept_by) (S_law_same : FS P w K mg base cl 6 "_law_same" 2 (m_law_same 5)) (S_Lean_by : FT P w K mg base cl 3 "Lean" "by" 1 m_Lean_by) : FnOk P w K mg base CX0 8 f fd ["_law_box_here"] (spM K cl 1 m_law_right) := by
  refine def_ok (N := ["_law_box_here", "_law_turn", "_law_share", "_law_parts", "_law_row_so", "_law_pull", "_law_far", "_law_word", "_law_due", "_law_soft", "_law_got", "_law_fixed"]) (n := 1) F sc_law_right rfl (fun cdv A outer s H E hr => ?_)
  exact (sss_cons (t_law_right_1 B S_law_hand_right S_law_of S_law_values S_Lean_init S_law_take S_law_stays K_kept_by_0 S_kept_by S_law_same S_Lean_by cdv A outer s H E hr)
    (sss_cons (t_law_right_16 B S_law_hand_right S_law_of S_law_values S_Lean_init S_law_take S_law_stays K_kept_by_0 S_kept_by S_law_same S_Lean_by cdv A outer s H E hr)
    (sss_one (t_law_right_17 B S_law_hand_right S_law_of S_law_values S_Lean_init S_law_take S_law_stays K_kept_by_0 S_kept_by S_law_same S_Lean_by cdv A outer s H E hr))))
theorem fs_law_right {f : Addr} {fd : FuncData} (F : Fun K "_law_right" "_law_right" s_law_right f fd) (hm : mg "_law_right" = some (.ref f)) (B : Bt mg) (S_law_hand_right : FS P w K mg base cl 7 "_law_hand_right" 0 m_law_hand_right) (S_law_of : FS P w K mg base cl 2 "_law_of" 2 m_law_of) (S_law_values : FS P w K mg base cl 3 "_law_values" 2 m_law_values) (S_Lean_init : FI P w K mg base cl 1 0 "Lean" 4 m_Lean_init) (S_law_take : FS P w K mg base cl 1 "_law_take" 2 m_law_take) (S_law_stays : FS P w K mg base cl 3 "_law_stays" 3 m_law_stays) (K_kept_by_0 : FK P w K mg base cl 6 "kept_by" 3 m_kept_by 0 ["rule", "lean", "values"] [2, 1, 0]) (S_kept_by : FS P w K mg base cl 6 "kept_by" 3 m_kept_by) (S_law_same : FS P w K mg base cl 6 "_law_same" 2 (m_law_same 5)) (S_Lean_by : FT P w K mg base cl 3 "Lean" "by" 1 m_Lean_by) : FS P w K mg base cl 8 "_law_right" 1 m_law_right :=
  ⟨⟨f, fd, ["_law_box_here"], ok_law_right F B S_law_hand_right S_law_of S_law_values S_Lean_init S_law_take S_law_stays K_kept_by_0 S_kept_by S_law_same S_Lean_by, hm, F.kp, F.binds (ps := ["_law_box_here"]) fun _ _ _ _ _ _ us hl => match us, hl with | [_], _ => rfl, rfl⟩, fun rs μ z h => mDef_ar rs μ z h⟩
end
end NS
set_option Elab.async false
set_option linter.all false
set_option maxRecDepth 100000
set_option maxHeartbeats 4000000
namespace NS
open PySem PySem.Spec PyProof.Rows L2 DL
section
variable {P : Program} {w : World} {K : PySem.W.Frag} {mg : Str → Option Value} {base : Heap} {cl : Nat → Addr}
theorem t_law_box_0 {f : Addr} (B : Bt mg) (cdv : Value) (A : Around) (outer : List Env) (s : Shared) (H : Hp) (E : XK) (hr : Room 0 (A.deeper (envOfC "_law_box" (defScope s_law_box) s.heap.objs.size f cdv))) :
    SS (cxOf CX0 P w K mg base ["_law_script", "_law_k", "_law_cell"] "_law_box" (defScope s_law_box) f cdv A outer s H E).nox cl ((defBody s_law_box).getD 0 (.Pass ⟨0, 0, 0, 0⟩)) m_law_box_0 := by
  exact (ss_set (i := 2) sc_law_box.nd (se_if (st_lt hr.units0 (se_var (i := 1)) (se_len B.len (sa_cons (se_var (i := 0)) sa_nil))) (se_ix (se_var (i := 0)) (se_var (i := 1))) se_int))
theorem t_law_box_1 {f : Addr} (B : Bt mg) (cdv : Value) (A : Around) (outer : List Env) (s : Shared) (H : Hp) (E : XK) (hr : Room 0 (A.deeper (envOfC "_law_box" (defScope s_law_box) s.heap.objs.size f cdv))) :
    SS (cxOf CX0 P w K mg base ["_law_script", "_law_k", "_law_cell"] "_law_box" (defScope s_law_box) f cdv A outer s H E).nox cl ((defBody s_law_box).getD 1 (.Pass ⟨0, 0, 0, 0⟩)) m_law_box_1 := by
  exact (ss_ret (se_lst (sa_cons (se_mul (se_abs B.abs (sa_cons (se_var (i := 2)) sa_nil)) (se_int1 B.int (sa_cons (se_ge (se_abs B.abs (sa_cons (se_var (i := 2)) sa_nil)) (se_pow se_int se_int)) sa_nil))) (sa_cons (se_add (se_add (se_mod (se_int1 B.int (sa_cons (se_var (i := 2)) sa_nil)) se_int) (se_mul se_int (se_var (i := 1)))) se_int) (sa_cons se_int sa_nil)))))
theorem ok_law_box {f : Addr} {fd : FuncData} (F : Fun K "_law_box" "_law_box" s_law_box f fd) (B : Bt mg) : FnOk P w K mg base CX0 1 f fd ["_law_script", "_law_k"] (spM K cl 2 m_law_box) := by
  refine def_ok (N := ["_law_script", "_law_k", "_law_cell"]) (n := 2) F sc_law_box rfl (fun cdv A outer s H E hr => ?_)
  exact (sss_cons (t_law_box_0 B cdv A outer s H E hr)
    (sss_one (t_law_box_1 B cdv A outer s H E hr)))
theorem fs_law_box {f : Addr} {fd : FuncData} (F : Fun K "_law_box" "_law_box" s_law_box f fd) (hm : mg "_law_box" = some (.ref f)) (B : Bt mg) : FS P w K mg base cl 1 "_law_box" 2 m_law_box :=
  ⟨⟨f, fd, ["_law_script", "_law_k"], ok_law_box F B, hm, F.kp, F.binds (ps := ["_law_script", "_law_k"]) fun _ _ _ _ _ _ us hl => match us, hl with | [_, _], _ => rfl, rfl⟩, fun rs μ z h => mDef_ar rs μ z h⟩
end
end NS
set_option Elab.async false
set_option linter.all false
set_option maxRecDepth 100000
set_option maxHeartbeats 4000000
namespace NS
open PySem PySem.Spec PyProof.Rows L2 DL
section
variable {P : Program} {w : World} {K : PySem.W.Frag} {mg : Str → Option Value} {base : Heap} {cl : Nat → Addr}
theorem t_law_0 {f : Addr} (B : Bt mg) (S_law_cells : FS P w K mg base cl 1 "_law_cells" 2 m_law_cells) (S_law_right : FS P w K mg base cl 8 "_law_right" 1 m_law_right) (S_law_box : FS P w K mg base cl 1 "_law_box" 2 m_law_box) (cdv : Value) (A : Around) (outer : List Env) (s : Shared) (H : Hp) (E : XK) (hr : Room 8 (A.deeper (envOfC "law" (defScope s_law) s.heap.objs.size f cdv))) :
    SS (cxOf CX0 P w K mg base ["_law_script", "_law_cells_so", "_law_k_so"] "law" (defScope s_law) f cdv A outer s H E).nox cl ((defBody s_law).getD 0 (.Pass ⟨0, 0, 0, 0⟩)) m_law_0 := by
  exact (ss_set (i := 1) sc_law.nd (se_call S_law_cells.x hr (by decide) (sa_cons (se_var (i := 0)) (sa_cons se_int sa_nil))))
theorem t_law_2 {f : Addr} (B : Bt mg) (S_law_cells : FS P w K mg base cl 1 "_law_cells" 2 m_law_cells) (S_law_right : FS P w K mg base cl 8 "_law_right" 1 m_law_right) (S_law_box : FS P w K mg base cl 1 "_law_box" 2 m_law_box) (cdv : Value) (A : Around) (outer : List Env) (s : Shared) (H : Hp) (E : XK) (hr : Room 8 (A.deeper (envOfC "law" (defScope s_law) s.heap.objs.size f cdv))) :
    SS (cxOf CX0 P w K mg base ["_law_script", "_law_cells_so", "_law_k_so"] "law" (defScope s_law) f cdv A outer s H E).nox cl ((defBody s_law).getD 1 (.Pass ⟨0, 0, 0, 0⟩)) m_law_2 := by
  exact (ss_ret (se_all B.all (sa_cons (se_lc (own := [("_law_k_so", 2)]) sc_law.nd (si_range1 B.range (sa_cons (se_len B.len (sa_cons (se_var (i := 1)) sa_nil)) sa_nil)) (sem_name (by decide)) (fun _ _ _ _ _ => (sg_name (cl := cl) (vs := [2]) (i := 2) sc_law.nd).1) (fun _ _ _ _ _ => stt_nil) (fun _ _ _ _ _ => (se_call1 S_law_right hr (by decide) (se_call S_law_box.x hr (by decide) (sa_cons (se_var (i := 1)) (sa_cons (se_var (i := 2)) sa_nil))))) (blkOk_by (by kernel_rfl))) sa_nil)))
theorem ok_law {f : Addr} {fd : FuncData} (F : Fun K "law" "law" s_law f fd) (B : Bt mg) (S_law_cells : FS P w K mg base cl 1 "_law_cells" 2 m_law_cells) (S_law_right : FS P w K mg base cl 8 "_law_right" 1 m_law_right) (S_law_box : FS P w K mg base cl 1 "_law_box" 2 m_law_box) : FnOk P w K mg base CX0 9 f fd ["_law_script"] (spM K cl 1 m_law) := by
  refine def_ok (N := ["_law_script", "_law_cells_so", "_law_k_so"]) (n := 1) F sc_law rfl (fun cdv A outer s H E hr => ?_)
  exact (sss_cons (t_law_0 B S_law_cells S_law_right S_law_box cdv A outer s H E hr)
    (sss_one (t_law_2 B S_law_cells S_law_right S_law_box cdv A outer s H E hr)))
theorem fs_law {f : Addr} {fd : FuncData} (F : Fun K "law" "law" s_law f fd) (hm : mg "law" = some (.ref f)) (B : Bt mg) (S_law_cells : FS P w K mg base cl 1 "_law_cells" 2 m_law_cells) (S_law_right : FS P w K mg base cl 8 "_law_right" 1 m_law_right) (S_law_box : FS P w K mg base cl 1 "_law_box" 2 m_law_box) : FS P w K mg base cl 9 "law" 1 m_law :=
  ⟨⟨f, fd, ["_law_script"], ok_law F B S_law_cells S_law_right S_law_box, hm, F.kp, F.binds (ps := ["_law_script"]) fun _ _ _ _ _ _ us hl => match us, hl with | [_], _ => rfl, rfl⟩, fun rs μ z h => mDef_ar rs μ z h⟩
end
end NS
set_option Elab.async false
set_option linter.all false
set_option maxRecDepth 100000
set_option maxHeartbeats 1000000

namespace DL
open PySem L2
def M_box_0 : MS := (mSet 2 (mIf (mB (mOp fLt (mVar 1) (mCb fLen (mCons (mVar 0) mNil)))) (mOp fIx (mVar 0) (mVar 1)) (mC (.int 0))))
def M_box_1 : MS := (mRet (mLst (mCons (mOp fMul (mCb fAbs (mCons (mVar 2) mNil)) (mCb fInt (mCons (mOp fGeI (mCb fAbs (mCons (mVar 2) mNil)) (mOp fPow (mC (.int 10)) (mC (.int 18)))) mNil))) (mCons (mOp fAdd (mOp fAdd (mOp fMod (mCb fInt (mCons (mVar 2) mNil)) (mC (.int 2305843009213693951))) (mOp fMul (mC (.int 39373)) (mVar 1))) (mC (.int 293))) (mCons (mC (.int 0)) mNil)))))
def M_box : MF := mDef 2 3
  (mSeq M_box_0
  M_box_1)
def M_take_0 : MS := (mSet 2 (mOp fMod (mCb fInt (mCons (mOp fIx (mVar 0) (mC (.int 0))) mNil)) (mVar 1)))
def M_take_1 : MS := (mPut (mVar 0) (mC (.int 0)) (mOp fDiv (mOp fIx (mVar 0) (mC (.int 0))) (mVar 1)))
def M_take_2 : MS := (mRet (mVar 2))
def M_take_3 : MS := (mIfS (mB (mOp fGtI (mOp fIx (mVar 0) (mC (.int 0))) (mC (.int 0)))) (mSeq M_take_0
  (mSeq M_take_1
  M_take_2)) mNx)
def M_take_4 : MS := (mPut (mVar 0) (mC (.int 2)) (mOp fAdd (mOp fIx (mVar 0) (mC (.int 2))) (mC (.int 1))))
def M_take_5 : MS := (mSet 3 (mOp fMod (mCb fInt (mCons (mOp fMul (mOp fAdd (mOp fIx (mVar 0) (mC (.int 1))) (mOp fMul (mC (.int 48271)) (mOp fIx (mVar 0) (mC (.int 2))))) (mOp fAdd (mC (.int 39373)) (mOp fIx (mVar 0) (mC (.int 2))))) mNil)) (mC (.int 2147483647))))
def M_take_6 : MS := (mSet 4 (mOp fAdd (mOp fMod (mCb fInt (mCons (mVar 3) mNil)) (mC (.int 40009))) (mC (.int 7))))
def M_take_7 : MS := (mSet 5 (mOp fMod (mCb fInt (mCons (mOp fMul (mOp fAdd (mOp fAdd (mVar 3) (mOp fIx (mVar 0) (mC (.int 2)))) (mOp fDiv (mOp fIx (mVar 0) (mC (.int 1))) (mC (.int 1000003)))) (mVar 4)) mNil)) (mC (.int 2147483629))))
def M_take_8 : MS := (mRet (mOp fMod (mCb fInt (mCons (mOp fDiv (mOp fMod (mCb fInt (mCons (mOp fAdd (mOp fMul (mVar 5) (mC (.int 48271))) (mVar 3)) mNil)) (mC (.int 2147483587))) (mC (.int 64))) mNil)) (mVar 1)))
def M_take : MF := mDef 2 6
  (mSeq M_take_3
  (mSeq M_take_4
  (mSeq M_take_5
  (mSeq M_take_6
  (mSeq M_take_7
  M_take_8)))))
def M_cells_0 : MS := (mSetC 2 (mOr (mCb fList (mCons (mSl (mVar 0) mNo (mSo (mVar 1))) mNil)) (mLst (mCons (mC (.int 0)) mNil))))
def M_cells_1 : MS := (mSet 5 (mOp fMod (mCb fInt (mCons (mVar 3) mNil)) (mVar 1)))
def M_cells_2 : MS := (mPut (mVar 2) (mVar 5) (mOp fAdd (mOp fIx (mVar 2) (mVar 5)) (mOp fMul (mVar 4) (mOp fAdd (mVar 3) (mC (.int 2))))))
def M_cells_b3 : MS := (mSeq M_cells_1
  M_cells_2)
def M_cells_4 : MS := (mFor (mItE (mCons (mSl (mVar 0) (mSo (mVar 1)) (mSo (mC (.int 63)))) mNil)) (tgPair 3 4) M_cells_b3)
def M_cells_5 : MS := (mRet (mVar 2))
def M_cells : MF := mDef 2 6
  (mSeq M_cells_0
  (mSeq M_cells_4
  M_cells_5))
def M_of_0 : MS := (mRet (mOp fIx (mVar 1) (mCall (callX M_take) (mCons (mVar 0) (mCons (mCb fLen (mCons (mVar 1) mNil)) mNil)))))
def M_of : MF := mDef 2 2
  M_of_0
def M_same_0 (r : MF) : MS := (mRet (mC (.bl false)))
def M_same_1 (r : MF) : MS := (mIfS (mtOr (mB (mOp (fEq true) (mIsi "list" (mVar 0)) (mIsi "list" (mVar 1)))) (mB (mOp (fEq true) (mIsi "tuple" (mVar 0)) (mIsi "tuple" (mVar 1))))) (M_same_0 r) mNx)
def M_same_e2 (r : MF) : ME := (mCall (callX r) (mCons (mVar 2) (mCons (mVar 3) mNil)))
def M_same_3 (r : MF) : MS := (mRet (mAnd (mOp (fEq false) (mCb fLen (mCons (mVar 0) mNil)) (mCb fLen (mCons (mVar 1) mNil))) (mCb fAll (mCons (mLc (mItZ (mCons (mVar 0) (mCons (mVar 1) mNil))) (tgPair 2 3) mYes (M_same_e2 r) [2, 3]) mNil))))
def M_same_4 (r : MF) : MS := (mIfS (mB (mIsi2 "list" "tuple" (mVar 1))) (mSeq (M_same_1 r)
  (M_same_3 r)) mNx)
def M_same_5 (r : MF) : MS := (mRet (mAnd (mOp (fEq false) (mVar 0) (mVar 1)) (mAnd (mOp (fEq false) (mIsi "bool" (mVar 0)) (mIsi "bool" (mVar 1))) (mOp (fEq false) (mOp (fIsN false) (mVar 0) (mC .non)) (mOp (fIsN false) (mVar 1) (mC .non))))))
def M_same_6 (r : MF) : MS := (mIfS (mtOr (mB (mOp (fIsN false) (mVar 1) (mC .non))) (mB (mIsi2 "bool" "str" (mVar 1)))) (M_same_5 r) mNx)
def M_same_7 (r : MF) : MS := (mRet (mAnd (mIsi "int" (mVar 0)) (mAnd (mNot (mIsi "bool" (mVar 0))) (mOp (fEq false) (mVar 0) (mVar 1)))))
def M_same : Nat → MF
  | 0 => fun _ _ => none
  | j + 1 => mDef 2 4 (mSeq (M_same_4 (M_same j))
      (mSeq (M_same_6 (M_same j))
      (M_same_7 (M_same j))))
def M_pick_0 : MS := (mPar true true 3 4 (mCb fList (mCons (mVar 1) mNil)) (mLst mNil))
def M_pick_1 : MS := (mDrop (mBm fAppend (mVar 4) (mCons (mBm fPopAt (mVar 3) (mCons (mCall (callX M_take) (mCons (mVar 0) (mCons (mCb fLen (mCons (mVar 3) mNil)) mNil))) mNil)) mNil)))
def M_pick_2 : MS := (mFor (mItR1 (mCons (mCb fMin (mCons (mCb fInt (mCons (mVar 2) mNil)) (mCons (mCb fLen (mCons (mVar 3) mNil)) mNil))) mNil)) (tgName 5) M_pick_1)
def M_pick_3 : MS := (mRet (mVar 4))
def M_pick : MF := mDef 3 6
  (mSeq M_pick_0
  (mSeq M_pick_2
  M_pick_3))
def M_ascending_0 : MS := (mSetC 1 (mLst mNil))
def M_ascending_1 : MS := (mSet 3 (mCb fLen (mCons (mVar 1) mNil)))
def M_ascending_2 : MS := (mSet 3 (mOp fSub (mVar 3) (mC (.int 1))))
def M_ascending_c3 : MT := (mtAnd (mB (mOp fGtI (mVar 3) (mC (.int 0)))) (mB (mOp fLt (mVar 2) (mOp fIx (mVar 1) (mOp fSub (mVar 3) (mC (.int 1)))))))
def M_ascending_4 : MS := (wh M_ascending_c3 M_ascending_2 1000)
def M_ascending_5 : MS := (mDrop (mBm fInsert (mVar 1) (mCons (mVar 3) (mCons (mVar 2) mNil))))
def M_ascending_b6 : MS := (mSeq M_ascending_1
  (mSeq M_ascending_4
  M_ascending_5))
def M_ascending_7 : MS := (mFor (mIt (mVar 0)) (tgName 2) M_ascending_b6)
def M_ascending_8 : MS := (mRet (mVar 1))
def M_ascending : MF := mDef 1 4
  (mSeq M_ascending_0
  (mSeq M_ascending_7
  M_ascending_8))
def M_subsets_0 : MS := (mSet 1 (mLst (mCons (mTup mNil) mNil)))
def M_subsets_e1 : ME := (mOp fAdd (mVar 3) (mTup (mCons (mVar 2) mNil)))
def M_subsets_2 : MS := (mSet 1 (mOp fAdd (mVar 1) (mLc (mIt (mVar 1)) (tgName 3) mYes M_subsets_e1 [3])))
def M_subsets_3 : MS := (mFor (mIt (mVar 0)) (tgName 2) M_subsets_2)
def M_subsets_4 : MS := (mRet (mVar 1))
def M_subsets : MF := mDef 1 4
  (mSeq M_subsets_0
  (mSeq M_subsets_3
  M_subsets_4))

def Bx (c : Int) (b : List D) : Prop := ∃ x y z : Int, b = [.int x, .int y, .int z] ∧ 0 ≤ z ∧ z ≤ c ∧ 0 ≤ y ∧ y < 4611686018427387904
theorem cMul_l {i j : Int} (h1 : -18446744073709551616 < i) (h2 : i < 18446744073709551616) : cMul i j = true := by
  unfold cMul
  rw [Bool.or_eq_true_iff]
  exact .inl (decide_eq_true ⟨h1, h2⟩)
theorem cMul_r {i j : Int} (h1 : -18446744073709551616 < j) (h2 : j < 18446744073709551616) : cMul i j = true := by
  unfold cMul
  rw [Bool.or_eq_true_iff]
  exact .inr (decide_eq_true ⟨h1, h2⟩)
theorem take_ok {b : List D} {c n : Int} (hb : Bx c b) (hc : c < 1099511627776) (h0 : 0 < n) (h1 : n < 1073741824) : ∃ (r : Int) (b' : List D), 0 ≤ r ∧ r < n ∧ Bx (c + 1) b' ∧ M_take [.cel 0, .dat (.int n)] [.l b] = some (.dat (.int r), [.l b']) := by
  obtain ⟨x, y, z, rfl, hz, hz2, hy, hy2⟩ := hb
  by_cases hx : 0 < x
  · refine ⟨x % n, [.int (x / n), .int y, .int z], Int.emod_nonneg _ (by omega), Int.emod_lt_of_pos _ h0, ⟨_, _, _, rfl, hz, by omega, hy, hy2⟩, ?_⟩
    simp [M_take, M_take_0, M_take_1, M_take_2, M_take_3, M_take_4, M_take_5, M_take_6, M_take_7, M_take_8, atI, ixN, hx, h0, h1]
  · have q1 : cMul 48271 (z + 1) = true := cMul_l (by omega) (by omega)
    have q2 : cMul (y + 48271 * (z + 1)) (39373 + (z + 1)) = true := cMul_r (by omega) (by omega)
    have q3 : ∀ i k : Int, cMul i (k % 40009 + 7) = true := fun i k => cMul_r (by omega) (by omega)
    have q4 : ∀ k : Int, cMul (k % 2147483629) 48271 = true := fun k => cMul_r (by omega) (by omega)
    have key : ∃ v : Int, M_take [.cel 0, .dat (.int n)] [.l [.int x, .int y, .int z]] = some (.dat (.int (v % n)), [.l [.int x, .int y, .int (z + 1)]]) := by
      generalize ho : (y + 48271 * (z + 1)) * (39373 + (z + 1)) % 2147483647 = o
      generalize ht : (o + (z + 1) + y / 1000003) * (o % 40009 + 7) % 2147483629 = t
      have q4' : cMul t 48271 = true := by
        rw [← ht]
        exact q4 _
      exact ⟨(t * 48271 + o) % 2147483587 / 64, by simp [M_take, M_take_0, M_take_1, M_take_2, M_take_3, M_take_4, M_take_5, M_take_6, M_take_7, M_take_8, atI, ixN, hx, h0, h1, q1, q2, q3, q4', ho, ht]⟩
    obtain ⟨v, key⟩ := key
    exact ⟨v % n, _, Int.emod_nonneg _ (by omega), Int.emod_lt_of_pos _ h0, ⟨x, y, z + 1, rfl, by omega, by omega, hy, hy2⟩, key⟩
theorem of_ok {b xs : List D} {c : Int} (hb : Bx c b) (hc : c < 1099511627776) (h0 : xs ≠ []) (h1 : xs.length ≤ 100000) : ∃ (d : D) (b' : List D), d ∈ xs ∧ Bx (c + 1) b' ∧ M_of [.cel 0, .dat (.lst xs)] [.l b] = some (.dat d, [.l b']) := by
  have hp : 0 < xs.length := List.length_pos_iff.mpr h0
  obtain ⟨r, b', q1, q2, q3, q4⟩ := take_ok hb hc (n := (xs.length : Int)) (by omega) (by omega)
  have hr : r.toNat < xs.length := by omega
  refine ⟨xs[r.toNat], b', List.getElem_mem hr, q3, ?_⟩
  simp [M_of, M_of_0, q4, atI, ixN, q1, q2, hr]
theorem box_ok {ns : List Int} {k : Nat} (hk : k ≤ 1000) : ∃ b, Bx 0 b ∧ M_box [.dat (.lst (ns.map D.int)), .dat (.int k)] [] = some (.fr b, []) := by
  have q1 : ∀ v : Int, cMul v (if 1000000000000000000 ≤ v then 1 else 0) = true := fun v => cMul_r (by split <;> omega) (by split <;> omega)
  have q2 : cMul 39373 (k : Int) = true := cMul_l (by omega) (by omega)
  by_cases h : k < ns.length
  · refine ⟨[.int ((if ns[k] < 0 then -ns[k] else ns[k]) * if (1000000000000000000 : Int) ≤ (if ns[k] < 0 then -ns[k] else ns[k]) then 1 else 0), .int (ns[k] % 2305843009213693951 + 39373 * (k : Int) + 293), .int 0], ⟨_, _, _, rfl, by omega, by omega, by omega, by omega⟩, ?_⟩
    simp [M_box, M_box_0, M_box_1, atI, ixN, h, q1, q2]
  · refine ⟨[.int 0, .int (0 % 2305843009213693951 + 39373 * (k : Int) + 293), .int 0], ⟨_, _, _, rfl, by omega, by omega, by omega, by omega⟩, ?_⟩
    have q3 : cMul 0 0 = true := by decide
    simp [M_box, M_box_0, M_box_1, atI, ixN, h, q1, q2, q3]

def cutI (xs : List Int) (lo hi : Option Int) : List Int := (xs.drop (HT.sIx xs.length 0 lo)).take (HT.sIx xs.length xs.length hi - HT.sIx xs.length 0 lo)
theorem cut_ints (ns : List Int) (lo hi : Option Int) : cutD (ns.map D.int) lo hi = (cutI ns lo hi).map D.int := by
  unfold cutD cutI
  rw [List.length_map, List.map_take, List.map_drop]
theorem ints_get (ns : List Int) (i : Nat) : (ns.map D.int)[i]? = (ns[i]?).map D.int := by
  rw [List.getElem?_map]
theorem ints_set (ns : List Int) (i : Nat) (v : Int) : (ns.map D.int).set i (.int v) = (ns.set i v).map D.int := by
  rw [List.map_set]
theorem ixN_nat {n i : Nat} (h : i < n) : ixN n (i : Int) = some i := by
  unfold ixN
  rw [if_pos (by omega), if_pos (by omega)]
  simp
theorem atI_nat' {β : Type} {xs : List β} {i : Nat} (h : i < xs.length) : atI xs (i : Int) = some xs[i] := by
  unfold atI
  rw [ixN_nat h]
  exact List.getElem?_eq_getElem h
theorem atI_int {rows : List Int} {i : Nat} (h : i < rows.length) : atI (rows.map D.int) (i : Int) = some (.int rows[i]) := by
  rw [atI_nat' (by rw [List.length_map]; exact h), List.getElem_map]
theorem loop_nil {t : TGT} {mb : MS} {δ : Sl} {μ : Mu} : loop yes t mb [] δ μ = some (.nx δ μ) := rfl
theorem loop_cons {t : TGT} {mb : MS} {x : D} {xs : List D} {δ δ1 δ2 : Sl} {μ μ2 : Mu} (h1 : t x δ = some δ1) (h2 : mb δ1 μ = some (.nx δ2 μ2)) : loop yes t mb (x :: xs) δ μ = loop yes t mb xs δ2 μ2 := by
  simp [loop, h1, h2]
theorem loop_ret {t : TGT} {mb : MS} {x : D} {xs : List D} {δ δ1 : Sl} {μ μ2 : Mu} {r : R} (h1 : t x δ = some δ1) (h2 : mb δ1 μ = some (.rt r μ2)) : loop yes t mb (x :: xs) δ μ = some (.rt r μ2) := by
  simp [loop, h1, h2]
theorem cells_loop {most : Nat} (hm : 0 < most) (sc : R) : ∀ (tail : List Int) (j : Nat) (rows : List Int) (a b c : R), j + tail.length ≤ 1000 → rows.length = most →
    ∃ (rows' : List Int) (a' b' c' : R), rows'.length = most ∧ loop yes (tgPair 3 4) M_cells_b3 (enumD j (tail.map D.int)) [sc, .dat (.int most), .cel 0, a, b, c] [rows.map D.int] = some (.nx [sc, .dat (.int most), .cel 0, a', b', c'] [rows'.map D.int])
  | [], j, rows, a, b, c, _, hr => ⟨rows, a, b, c, hr, loop_nil⟩
  | v :: tail, j, rows, a, b, c, hj, hr => by
    have hj' : j + 1 + tail.length ≤ 1000 := by
      rw [List.length_cons] at hj
      omega
    have hat : j % most < rows.length := by rw [hr]; exact Nat.mod_lt _ hm
    have e1 : ((j : Int) % (most : Int)) = ((j % most : Nat) : Int) := (Int.natCast_emod j most).symm
    have q1 : cMul v ((j : Int) + 2) = true := cMul_r (by omega) (by omega)
    obtain ⟨rows', a', b', c', h1, h2⟩ := cells_loop hm sc tail (j + 1) (rows.set (j % most) (rows[j % most] + v * ((j : Int) + 2))) (.dat (.int j)) (.dat (.int v)) (.dat (.int ((j : Int) % (most : Int)))) hj' (by rw [List.length_set]; exact hr)
    refine ⟨rows', a', b', c', h1, ?_⟩
    rw [← h2]
    have e2 := atI_int hat
    have e3 := ixN_nat hat
    rw [← e1] at e2 e3
    refine loop_cons (δ1 := [sc, .dat (.int most), .cel 0, .dat (.int j), .dat (.int v), c]) rfl ?_
    simp [M_cells_b3, M_cells_1, M_cells_2, hm, e2, e3, q1]
theorem cells_ok {ns : List Int} {most : Nat} (hm : 0 < most) (hm2 : most ≤ 60) (hn : ns.length ≤ 63) : ∃ ms : List Int, ms ≠ [] ∧ ms.length ≤ most ∧ M_cells [.dat (.scr ns), .dat (.int most)] [] = some (.fr (ms.map D.int), []) := by
  have c1 : cutI ns none (some (most : Int)) = ns.take most := by
    unfold cutI
    rw [HT.sIx_none, HT.sIx_nat, List.drop_zero, Nat.sub_zero]
    by_cases h : most ≤ ns.length
    · rw [Nat.min_eq_left h]
    · rw [Nat.min_eq_right (by omega), List.take_length, List.take_of_length_le (by omega)]
  have c2 : cutI ns (some (most : Int)) (some 63) = ns.drop most := by
    unfold cutI
    rw [HT.sIx_nat, show HT.sIx ns.length ns.length (some 63) = min 63 ns.length from HT.sIx_nat ns.length ns.length 63, Nat.min_eq_right hn]
    by_cases h : most ≤ ns.length
    · rw [Nat.min_eq_left h, List.take_of_length_le (by rw [List.length_drop]; exact Nat.le_refl _)]
    · rw [Nat.min_eq_right (by omega), List.drop_length, List.drop_eq_nil_of_le (by omega), List.take_nil]
  -- the rows at first
  obtain ⟨rows, hr1, hr2, hr3⟩ : ∃ rows : List Int, rows ≠ [] ∧ (ns.drop most = [] → rows.length ≤ most) ∧ (ns.drop most ≠ [] → rows.length = most) ∧ M_cells_0 [.dat (.scr ns), .dat (.int most), .no, .no, .no, .no] [] = some (.nx [.dat (.scr ns), .dat (.int most), .cel 0, .no, .no, .no] [rows.map D.int]) := by
    cases hq : ns with
    | nil => exact ⟨[0], by simp, fun _ => by simp; omega, fun z => absurd (by simp) z, by simp [M_cells_0, cutD]⟩
    | cons n0 nr =>
      rw [← hq]
      have hl : (ns.take most).length = min most ns.length := List.length_take
      have hp : 0 < ns.length := by rw [hq, List.length_cons]; omega
      have hne : ns.take most ≠ [] := fun z => by
        rw [z] at hl
        simp at hl
        omega
      have hc : ∃ x r, ns.take most = x :: r := List.exists_cons_of_ne_nil hne
      obtain ⟨x, r, hx⟩ := hc
      refine ⟨ns.take most, hne, fun _ => by omega, fun z => ?_, ?_⟩
      · have : most < ns.length := by
          apply Classical.byContradiction
          intro h
          exact z (List.drop_eq_nil_of_le (by omega))
        omega
      · simp only [M_cells_0, mSetC, mOr, mCb, mCons, mSl, mVar, mNo, mSo, mNil, mLst, mC, List.getElem?_cons_zero, List.getElem?_cons_succ, sqOf, fList, froz, cut_ints, c1]
        simp [hx]
  obtain ⟨hr3, hr4⟩ := hr3
  have fin : ∀ (rows' : List Int) (a b c : R), loop yes (tgPair 3 4) M_cells_b3 (enumD 0 ((ns.drop most).map D.int)) [.dat (.scr ns), .dat (.int most), .cel 0, .no, .no, .no] [rows.map D.int] = some (.nx [.dat (.scr ns), .dat (.int most), .cel 0, a, b, c] [rows'.map D.int]) → M_cells [.dat (.scr ns), .dat (.int most)] [] = some (.fr (rows'.map D.int), []) := by
    intro rows' a b c h
    have h4 : M_cells_4 [.dat (.scr ns), .dat (.int most), .cel 0, .no, .no, .no] [rows.map D.int] = some (.nx [.dat (.scr ns), .dat (.int most), .cel 0, a, b, c] [rows'.map D.int]) := by
      simpa [M_cells_4, cut_ints, c2] using h
    simp [M_cells, hr4, h4, M_cells_5]
  by_cases h0 : ns.drop most = []
  · refine ⟨rows, hr1, hr2 h0, fin rows .no .no .no ?_⟩
    rw [h0]
    rfl
  · obtain ⟨rows', a', b', c', h1, h2⟩ := cells_loop (most := most) hm (.dat (.scr ns)) (ns.drop most) 0 rows .no .no .no (by rw [List.length_drop]; omega) (hr3 h0)
    refine ⟨rows', fun z => ?_, by omega, fin rows' a' b' c' h2⟩
    rw [z] at h1
    simp at h1
    omega
end DL
set_option Elab.async false
set_option linter.all false
set_option maxRecDepth 100000
set_option maxHeartbeats 1000000
namespace DL
open PySem L2

theorem lc_fil {t : TGT} {mt : MT} {me : ME} {δ : Sl} {μ : Mu} {p : D → Bool} {g : D → D} : ∀ (xs acc : List D), acc.length + xs.length ≤ 100000 →
    (∀ d ∈ xs, ∃ δ1, t d δ = some δ1 ∧ mt δ1 μ = some (p d, μ) ∧ (p d = true → ∃ r, me δ1 μ = some (r, μ) ∧ toD r = some (g d))) → lcLoop yes t mt me δ xs acc μ = some (acc ++ (xs.filter p).map g, μ)
  | [], acc, _, _ => by simp [lcLoop]
  | x :: xs, acc, hl, h => by
    obtain ⟨δ1, h1, h2, h3⟩ := h x List.mem_cons_self
    rw [List.length_cons] at hl
    cases hp : p x with
    | false =>
      have ih := lc_fil (p := p) (g := g) xs acc (by omega) fun d hd => h d (List.mem_cons_of_mem _ hd)
      rw [hp] at h2
      simp [lcLoop, h1, h2, ih, hp]
    | true =>
      obtain ⟨r, h4, h5⟩ := h3 hp
      have ih := lc_fil (p := p) (g := g) xs (acc ++ [g x]) (by rw [List.length_append]; simp; omega) fun d hd => h d (List.mem_cons_of_mem _ hd)
      rw [hp] at h2
      have hl2 : acc.length < 100000 := by omega
      simp only [lcLoop, yes, if_true, h1, h2, h4, h5, hl2]
      rw [ih, List.filter_cons_of_pos hp, List.map_cons, List.append_assoc]
      rfl
theorem lc_map {t : TGT} {me : ME} {δ : Sl} {μ : Mu} {g : D → D} (xs : List D) (hl : xs.length ≤ 100000)
    (h : ∀ d ∈ xs, ∃ δ1, t d δ = some δ1 ∧ ∃ r, me δ1 μ = some (r, μ) ∧ toD r = some (g d)) : lcLoop yes t mYes me δ xs [] μ = some (xs.map g, μ) := by
  have := lc_fil (t := t) (mt := mYes) (me := me) (δ := δ) (μ := μ) (p := fun _ => true) (g := g) xs [] (by simpa using hl) fun d hd => by
    obtain ⟨δ1, h1, h2⟩ := h d hd
    exact ⟨δ1, h1, rfl, fun _ => h2⟩
  rw [this, List.nil_append, List.filter_eq_self.mpr (fun _ _ => rfl)]
theorem blsOf_map' {α : Type} (f : α → Bool) : ∀ l : List α, blsOf (l.map fun x => D.bl (f x)) = some (l.map f)
  | [] => rfl
  | x :: l => by simp [blsOf, blsOf_map' f l]
theorem intsOf_ints : ∀ ns : List Int, intsOf (ns.map D.int) = some ns
  | [] => rfl
  | n :: ns => by simp [intsOf, intsOf_ints ns]

def okD : Nat → D → Bool
  | 0, _ => false
  | j + 1, d => match d with
    | .non => true
    | .bl _ => true
    | .int _ => true
    | .str _ => true
    | .tup xs => decide (xs.length ≤ 1000) && xs.all (okD j)
    | .lst xs => decide (xs.length ≤ 1000) && xs.all (okD j)
    | _ => false
theorem pairs_self : ∀ xs : List D, pairsD xs xs = xs.map fun x => .tup [x, x]
  | [] => rfl
  | x :: xs => by simp [pairsD, pairs_self xs]
theorem same_seq {j : Nat} {xs : List D} {a b : R} (hl : xs.length ≤ 1000) (ih : ∀ d ∈ xs, M_same j [.dat d, .dat d] [] = some (.dat (.bl true), [])) :
    lcLoop yes (tgPair 2 3) mYes (M_same_e2 (M_same j)) [a, b, .no, .no] (pairsD xs xs) [] [] = some (xs.map (fun _ => .bl true), []) := by
  rw [pairs_self, lc_map (g := fun _ => .bl true) (xs.map fun x => .tup [x, x]) (by rw [List.length_map]; omega) fun d hd => ?_]
  · rw [List.map_map]
    rfl
  · obtain ⟨x, hx, rfl⟩ := List.mem_map.mp hd
    exact ⟨_, rfl, .dat (.bl true), by simp [M_same_e2, ih x hx], rfl⟩
theorem same_refl : ∀ (j : Nat) (d : D), okD j d = true → M_same j [.dat d, .dat d] [] = some (.dat (.bl true), [])
  | 0, _, h => by cases h
  | j + 1, .non, _ => by
    have a : SeqAt.shaped PyData.none = true := by decide +kernel
    have b : PyData.eqv .none .none = true := by decide +kernel
    simp [M_same, M_same_4, M_same_6, M_same_5, isB, rPy, toPy, a, b]
  | j + 1, .bl b, _ => by simp [M_same, M_same_4, M_same_6, M_same_5, isB]
  | j + 1, .int i, _ => by simp [M_same, M_same_4, M_same_6, M_same_7, isB]
  | j + 1, .str x, _ => by simp [M_same, M_same_4, M_same_6, M_same_5, isB]
  | j + 1, .tup xs, h => by
    simp only [okD, Bool.and_eq_true, decide_eq_true_eq, List.all_eq_true] at h
    have q := same_seq (a := .dat (.tup xs)) (b := .dat (.tup xs)) h.1 fun d hd => same_refl j d (h.2 d hd)
    have q2 : blsOf (xs.map (fun _ => D.bl true)) = some (xs.map fun _ => true) := blsOf_map' (fun _ => true) xs
    simp [M_same, M_same_4, M_same_1, M_same_3, isB, q, q2]
  | j + 1, .lst xs, h => by
    simp only [okD, Bool.and_eq_true, decide_eq_true_eq, List.all_eq_true] at h
    have q := same_seq (a := .dat (.lst xs)) (b := .dat (.lst xs)) h.1 fun d hd => same_refl j d (h.2 d hd)
    have q2 : blsOf (xs.map (fun _ => D.bl true)) = some (xs.map fun _ => true) := blsOf_map' (fun _ => true) xs
    simp [M_same, M_same_4, M_same_1, M_same_3, isB, q, q2]
  | j + 1, .scr _, h => by cases h
  | j + 1, .ins _ _, h => by cases h

theorem perm_erase : ∀ (l : List D) (j : Nat) (h : j < l.length), (l[j] :: l.eraseIdx j).Perm l
  | x :: l, 0, _ => .refl _
  | x :: l, j + 1, h => by
    have h' : j < l.length := by simpa using h
    have ih := perm_erase l j h'
    simp only [List.getElem_cons_succ, List.eraseIdx_cons_succ]
    exact (List.Perm.swap x l[j] _).trans (.cons x ih)
theorem pick_loop {x1 x2 : R} : ∀ (its rest found b : List D) (c : Int) (a : R), its.length ≤ rest.length → rest.length + found.length ≤ 90000 → Bx c b → c + its.length < 1099511627776 →
    ∃ (b' rest' found' : List D) (a' : R), Bx (c + its.length) b' ∧ found'.length = found.length + its.length ∧ (found' ++ rest').Perm (found ++ rest) ∧
      loop yes (tgName 5) M_pick_1 its [.cel 0, x1, x2, .cel 1, .cel 2, a] [.l b, .l rest, .l (found)] = some (.nx [.cel 0, x1, x2, .cel 1, .cel 2, a'] [.l b', .l rest', .l (found')])
  | [], rest, found, b, c, a, _, _, hb, _ => ⟨b, rest, found, a, by simpa using hb, by simp, .refl _, loop_nil⟩
  | i :: its, rest, found, b, c, a, h1, h2, hb, hc => by
    rw [List.length_cons] at h1 hc
    obtain ⟨r, b1, q1, q2, q3, q4⟩ := take_ok hb (by omega) (n := (rest.length : Int)) (by omega) (by omega)
    obtain ⟨j, rfl⟩ : ∃ j : Nat, r = (j : Int) := ⟨r.toNat, by omega⟩
    have hj : j < rest.length := by omega
    have hp : (found ++ [rest[j]] ++ rest.eraseIdx j).Perm (found ++ rest) := by
      rw [List.append_assoc]
      exact List.Perm.append_left _ (perm_erase rest j hj)
    have hl : (rest.eraseIdx j).length = rest.length - 1 := List.length_eraseIdx_of_lt hj
    obtain ⟨b', rest', found', a', g1, g2, g3, g4⟩ := pick_loop its (rest.eraseIdx j) (found ++ [rest[j]]) b1 (c + 1) (.dat i) (by omega) (by rw [List.length_append, hl]; simp; omega) q3 (by omega)
    refine ⟨b', rest', found', a', ?_, ?_, g3.trans hp, ?_⟩
    · rw [List.length_cons]
      have : c + ((its.length + 1 : Nat) : Int) = c + 1 + (its.length : Int) := by omega
      rw [this]
      exact g1
    · rw [g2, List.length_append, List.length_cons]
      simp
      omega
    · rw [← g4]
      refine loop_cons rfl ?_
      have e3 := ixN_nat hj
      have l1 : rest.length ≤ 100000 := by omega
      have l2 : found.length < 100000 := by omega
      simp [M_pick_1, q4, e3, hj, l1, l2]
theorem rgD_len (a b : Int) : (rgD a b).length = (b - a).toNat := by
  unfold rgD
  rw [List.length_map, List.length_range]
theorem pick_ok {b xs : List D} {c many : Int} (hb : Bx c b) (hc : c < 1000000000) (h0 : 0 ≤ many) (hl : xs.length ≤ 10000) : ∃ (ys rest b' : List D), Bx (c + xs.length) b' ∧ ys.length = min many.toNat xs.length ∧ (ys ++ rest).Perm xs ∧
    M_pick [.cel 0, .dat (.lst xs), .dat (.int many)] [.l b] = some (.fr ys, [.l b']) := by
  obtain ⟨b', rest', found', a', g1, g2, g3, g4⟩ := pick_loop (x1 := .dat (.lst xs)) (x2 := .dat (.int many)) (rgD 0 (if (xs.length : Int) < many then (xs.length : Int) else many)) xs [] b c .no (by rw [rgD_len]; split <;> omega) (by simp; omega) hb (by rw [rgD_len]; split <;> omega)
  rw [rgD_len] at g1 g2
  obtain ⟨x, y, z, e1, e2, e3, e4⟩ := id g1
  refine ⟨found', rest', b', ⟨x, y, z, e1, e2, by revert e3; split <;> (intro e3; omega), e4⟩, by rw [g2]; simp; split <;> omega, by simpa using g3, ?_⟩
  have l1 : -4611686018427387904 ≤ (if (xs.length : Int) < many then (xs.length : Int) else many) := by split <;> omega
  have l2 : (if (xs.length : Int) < many then (xs.length : Int) else many) < 4611686018427387904 := by split <;> omega
  have q0 : M_pick_0 [.cel 0, .dat (.lst xs), .dat (.int many), .no, .no, .no] [.l b] = some (.nx [.cel 0, .dat (.lst xs), .dat (.int many), .cel 1, .cel 2, .no] [.l b, .l xs, .l ([])]) := by
    simp [M_pick_0]
  have q2 : M_pick_2 [.cel 0, .dat (.lst xs), .dat (.int many), .cel 1, .cel 2, .no] [.l b, .l xs, .l ([])] = some (.nx [.cel 0, .dat (.lst xs), .dat (.int many), .cel 1, .cel 2, a'] [.l b', .l rest', .l (found')]) := by
    simp only [M_pick_2, mFor, mItR1, mCons, mCb, mNil, mVar, fInt, fLen, fMin, froz, sqOf, lstOf, List.getElem?_cons_zero, List.getElem?_cons_succ, Option.map_some, Sq.all]
    simp [l1, l2, g4]
  simp [M_pick, q0, q2, M_pick_3]

theorem asc_while {x0 : R} {row : Int} {found : List Int} (μ : Mu) (hμ : μ = [.l (found.map D.int)]) : ∀ (place n : Nat), place ≤ found.length → place < n → ∃ p : Nat, p ≤ place ∧ (0 < p → ∀ h : p - 1 < found.length, found[p - 1] ≤ row) ∧ (∀ i, p ≤ i → i < place → ∀ h : i < found.length, row < found[i]) ∧
    wh M_ascending_c3 M_ascending_2 n [x0, .cel 0, .dat (.int row), .dat (.int (place : Int))] μ = some (.nx [x0, .cel 0, .dat (.int row), .dat (.int (p : Int))] μ)
  | 0, n + 1, h1, h2 => ⟨0, Nat.le_refl _, fun z => absurd z (by omega), fun i h3 h4 => absurd h4 (by omega), by simp [wh, M_ascending_c3]⟩
  | place + 1, n + 1, h1, h2 => by
    have hp : place < found.length := by omega
    have e1 : ((place + 1 : Nat) : Int) - 1 = (place : Int) := by omega
    have e2 := atI_int hp
    have e3 : (0 : Int) < ((place + 1 : Nat) : Int) := by omega
    by_cases hr : row < found[place]
    · obtain ⟨p, g1, g2, g3, g4⟩ := asc_while μ hμ place n (by omega) (by omega)
      refine ⟨p, by omega, g2, fun i h3 h4 h5 => ?_, ?_⟩
      · by_cases hi : i = place
        · subst hi
          exact hr
        · exact g3 i h3 (by omega) h5
      · rw [← g4]
        have q1 : M_ascending_c3 [x0, .cel 0, .dat (.int row), .dat (.int ((place + 1 : Nat) : Int))] μ = some (true, μ) := by
          subst hμ
          simp only [M_ascending_c3, mtAnd, mB, mOp, mVar, mC, List.getElem?_cons_zero, List.getElem?_cons_succ, fI, e3, decide_true, if_true, fIx, sqOf, lstOf, Option.map_some, Sq.all, e1, e2, fLt, hr]
        have q2 : M_ascending_2 [x0, .cel 0, .dat (.int row), .dat (.int ((place + 1 : Nat) : Int))] μ = some (.nx [x0, .cel 0, .dat (.int row), .dat (.int (place : Int))] μ) := by
          simp only [M_ascending_2, mSet, mOp, mVar, mC, List.getElem?_cons_zero, List.getElem?_cons_succ, fI, if_true, e1, putR, List.set_cons_succ, List.set_cons_zero]
        simp only [wh, q1, q2]
    · refine ⟨place + 1, Nat.le_refl _, fun _ h => by simpa using Int.not_lt.mp hr, fun i h3 h4 => absurd h4 (by omega), ?_⟩
      have q1 : M_ascending_c3 [x0, .cel 0, .dat (.int row), .dat (.int ((place + 1 : Nat) : Int))] μ = some (false, μ) := by
        subst hμ
        simp only [M_ascending_c3, mtAnd, mB, mOp, mVar, mC, List.getElem?_cons_zero, List.getElem?_cons_succ, fI, e3, decide_true, if_true, fIx, sqOf, lstOf, Option.map_some, Sq.all, e1, e2, fLt, hr, decide_false]
      simp only [wh, q1]
theorem ins_sorted {found : List Int} {row : Int} {p : Nat} (hs : found.Pairwise (· ≤ ·)) (hp : p ≤ found.length) (h1 : 0 < p → ∀ h : p - 1 < found.length, found[p - 1] ≤ row) (h2 : ∀ i, p ≤ i → i < found.length → ∀ h : i < found.length, row < found[i]) :
    (found.take p ++ [row] ++ found.drop p).Pairwise (· ≤ ·) := by
  have hlow : ∀ y ∈ found.take p, y ≤ row := by
    intro y hy
    obtain ⟨i, hi, rfl⟩ := List.mem_iff_getElem.mp hy
    rw [List.length_take] at hi
    rw [List.getElem_take]
    have hp0 : 0 < p := by omega
    refine Int.le_trans ?_ (h1 hp0 (by omega))
    by_cases e : i = p - 1
    · subst e
      exact Int.le_refl _
    · exact List.pairwise_iff_getElem.mp hs i (p - 1) (by omega) (by omega) (by omega)
  have hhigh : ∀ y ∈ found.drop p, row ≤ y := by
    intro y hy
    obtain ⟨i, hi, rfl⟩ := List.mem_iff_getElem.mp hy
    rw [List.length_drop] at hi
    rw [List.getElem_drop]
    exact Int.le_of_lt (h2 (p + i) (by omega) (by omega) (by omega))
  rw [List.pairwise_append]
  refine ⟨?_, hs.sublist (List.drop_sublist _ _), fun x hx y hy => ?_⟩
  · rw [List.pairwise_append]
    exact ⟨hs.sublist (List.take_sublist _ _), List.pairwise_singleton _ _, fun x hx y hy => by rw [List.mem_singleton.mp hy]; exact hlow x hx⟩
  · rcases List.mem_append.mp hx with h | h
    · exact Int.le_trans (hlow x h) (hhigh y hy)
    · rw [List.mem_singleton.mp h]
      exact hhigh y hy
theorem asc_loop {x0 : R} : ∀ (its found : List Int) (a b : R), its.length + found.length < 900 → found.Pairwise (· ≤ ·) → ∃ (found' : List Int) (a' b' : R), found'.Perm (found ++ its) ∧ found'.Pairwise (· ≤ ·) ∧
    loop yes (tgName 2) M_ascending_b6 (its.map D.int) [x0, .cel 0, a, b] [found.map D.int] = some (.nx [x0, .cel 0, a', b'] [found'.map D.int])
  | [], found, a, b, _, hs => ⟨found, a, b, by simp, hs, loop_nil⟩
  | row :: its, found, a, b, hl, hs => by
    rw [List.length_cons] at hl
    obtain ⟨p, g1, g2, g3, g4⟩ := asc_while (x0 := x0) (row := row) (found := found) [found.map D.int] rfl found.length 1000 (Nat.le_refl _) (by omega)
    have hs' := ins_sorted hs g1 g2 fun i h3 _ h5 => g3 i h3 h5 h5
    have hpm : (found.take p ++ [row] ++ found.drop p).Perm (found ++ [row]) := by
      have := List.perm_append_comm (l₁ := [row]) (l₂ := found.drop p)
      have e : found ++ [row] = found.take p ++ (found.drop p ++ [row]) := by rw [← List.append_assoc, List.take_append_drop]
      rw [e, List.append_assoc]
      exact List.Perm.append_left _ this
    obtain ⟨found', a', b', k1, k2, k3⟩ := asc_loop its (found.take p ++ [row] ++ found.drop p) (.dat (.int row)) (.dat (.int (p : Int))) (by have := hpm.length_eq; rw [this, List.length_append]; simp; omega) hs'
    refine ⟨found', a', b', ?_, k2, ?_⟩
    · refine k1.trans ?_
      have e : found ++ row :: its = (found ++ [row]) ++ its := by simp
      rw [e]
      exact List.Perm.append_right _ hpm
    · rw [← k3]
      refine loop_cons (δ1 := [x0, .cel 0, .dat (.int row), b]) rfl ?_
      have l1 : found.length < 100000 := by omega
      have l2 : (p : Int) ≤ 100000 := by omega
      have q1 : M_ascending_1 [x0, .cel 0, .dat (.int row), b] [found.map D.int] = some (.nx [x0, .cel 0, .dat (.int row), .dat (.int (found.length : Int))] [found.map D.int]) := by simp [M_ascending_1]
      have q4 : M_ascending_4 [x0, .cel 0, .dat (.int row), .dat (.int (found.length : Int))] [found.map D.int] = some (.nx [x0, .cel 0, .dat (.int row), .dat (.int (p : Int))] [found.map D.int]) := g4
      have q5 : M_ascending_5 [x0, .cel 0, .dat (.int row), .dat (.int (p : Int))] [found.map D.int] = some (.nx [x0, .cel 0, .dat (.int row), .dat (.int (p : Int))] [(found.take p ++ [row] ++ found.drop p).map D.int]) := by
        have l3 : (p : Int) ≤ 100000 ↔ p ≤ 100000 := by omega
        have l4 : p ≤ 100000 := by omega
        simp [M_ascending_5, l1, l2, l3, l4]
      simp only [M_ascending_b6, mSeq, q1, q4, q5]
theorem asc_ok {ns : List Int} (hl : ns.length < 900) : ∃ ms : List Int, ms.Perm ns ∧ ms.Pairwise (· ≤ ·) ∧ M_ascending [.dat (.lst (ns.map D.int))] [] = some (.fr (ms.map D.int), []) := by
  obtain ⟨ms, a, b, h1, h2, h3⟩ := asc_loop (x0 := .dat (.lst (ns.map D.int))) ns [] .no .no (by simp; omega) List.Pairwise.nil
  refine ⟨ms, by simpa using h1, h2, ?_⟩
  simp only [List.map_nil] at h3
  have q7 : M_ascending_7 [.dat (.lst (ns.map D.int)), .cel 0, .no, .no] [.l []] = some (.nx [.dat (.lst (ns.map D.int)), .cel 0, a, b] [ms.map D.int]) := by
    simp [M_ascending_7, h3]
  simp [M_ascending, M_ascending_0, q7, M_ascending_8]
end DL
set_option Elab.async false
set_option linter.all false
set_option maxRecDepth 100000
set_option maxHeartbeats 1000000
namespace DL
open PySem L2
theorem toPys_ints : ∀ ns : List Int, toPys (ns.map D.int) = some (ns.map PyData.int)
  | [] => rfl
  | n :: ns => by simp [toPys, toPy, toPys_ints ns]
theorem canLay_ints : ∀ ns : List Int, PyData.canLayAll0 (ns.map PyData.int) = true
  | [] => rfl
  | n :: ns => by simp [PyData.canLayAll0, PyData.canLay0, canLay_ints ns]
theorem depth_ints : ∀ ns : List Int, PyData.depthAll (ns.map PyData.int) = 0
  | [] => rfl
  | n :: ns => by simp [PyData.depthAll, PyData.depth, depth_ints ns]
theorem shaped_ints (ns : List Int) : SeqAt.shaped (.list (ns.map PyData.int)) = true := by
  simp [SeqAt.shaped, PyData.canLay0, canLay_ints, PyData.depth, depth_ints]
theorem eqv_nil : ∀ ns : List Int, PyData.eqv (.list (ns.map PyData.int)) (.list []) = ns.isEmpty
  | [] => by simp [PyData.eqv, PyData.eqvAll]
  | n :: ns => by simp [PyData.eqv, PyData.eqvAll]
theorem eq_nil (neg : Bool) (ns : List Int) (μ : Mu) : fEq neg (.fr (ns.map D.int)) (.fr []) μ = some (.dat (.bl (xor neg ns.isEmpty))) := by
  have h1 : rPy (.fr (ns.map D.int)) μ = some (.list (ns.map PyData.int)) := by simp [rPy, toPys_ints]
  have h2 : rPy (.fr []) μ = some (.list []) := by simp [rPy, toPys]
  have h3 := shaped_ints ns
  have h4 : SeqAt.shaped (.list []) = true := shaped_ints []
  simp [fEq, h1, h2, h3, h4, eqv_nil]

def rgI (a b : Int) : List Int := (List.range (b - a).toNat).map fun i => a + (i : Nat)
theorem rgD_ints (a b : Int) : rgD a b = (rgI a b).map D.int := by
  unfold rgD rgI
  rw [List.map_map]
  rfl
theorem rgI_len (a b : Int) : (rgI a b).length = (b - a).toNat := by
  unfold rgI
  rw [List.length_map, List.length_range]
theorem mem_rgI {a b x : Int} : x ∈ rgI a b ↔ a ≤ x ∧ x < b := by
  unfold rgI
  rw [List.mem_map]
  constructor
  · rintro ⟨i, hi, rfl⟩
    rw [List.mem_range] at hi
    omega
  · rintro ⟨h1, h2⟩
    exact ⟨(x - a).toNat, by rw [List.mem_range]; omega, by omega⟩
theorem rgI_split {a b c : Int} (h1 : a ≤ c) (h2 : c < b) : rgI a b = rgI a c ++ c :: rgI (c + 1) b := by
  apply List.ext_getElem
  · simp only [List.length_append, List.length_cons, rgI_len]
    omega
  · intro i h3 h4
    rw [rgI_len] at h3
    by_cases h : i < (c - a).toNat
    · rw [List.getElem_append_left (by rw [rgI_len]; exact h)]
      simp [rgI]
    · rw [List.getElem_append_right (by rw [rgI_len]; omega)]
      simp only [rgI_len]
      by_cases e : i - (c - a).toNat = 0
      · simp only [e, List.getElem_cons_zero, rgI, List.getElem_map, List.getElem_range]
        omega
      · obtain ⟨j, hj⟩ : ∃ j, i - (c - a).toNat = j + 1 := ⟨i - (c - a).toNat - 1, by omega⟩
        simp only [hj, List.getElem_cons_succ, rgI, List.getElem_map, List.getElem_range]
        omega
theorem rgI_nodup (a b : Int) : (rgI a b).Nodup := by
  unfold rgI
  refine List.Pairwise.map _ (fun x y h => ?_) List.nodup_range
  omega

def T_e0 (r : MF) : ME := (mCall (callX r) (mCons (mVar 1) mNil))
def T_1 (r : MF) : MS := (mRet (mCb fTuple (mCons (mLc (mIt (mVar 0)) (tgName 1) mYes (T_e0 r) [1]) mNil)))
def T_2 (r : MF) : MS := (mIfS (mB (mIsi2 "list" "tuple" (mVar 0))) (T_1 r) mNx)
def T_3 (r : MF) : MS := (mRet (mVar 0))
def T_ : Nat → MF
  | 0 => fun _ _ => none
  | j + 1 => mDef 1 2 (mSeq (T_2 (T_ j))
      (T_3 (T_ j)))
theorem tup_int (j : Nat) (i : Int) : T_ (j + 1) [.dat (.int i)] [] = some (.dat (.int i), []) := by
  simp [T_, T_2, T_3, isB]
theorem tup_ints (j : Nat) (ns : List Int) (hl : ns.length ≤ 1000) : T_ (j + 2) [.dat (.tup (ns.map D.int))] [] = some (.dat (.tup (ns.map D.int)), []) := by
  have q : lcLoop yes (tgName 1) mYes (T_e0 (T_ (j + 1))) [.dat (.tup (ns.map D.int)), .no] (ns.map D.int) [] [] = some ((ns.map D.int).map id, []) :=
    lc_map (g := id) (ns.map D.int) (by rw [List.length_map]; omega) fun d hd => by
      obtain ⟨n, _, rfl⟩ := List.mem_map.mp hd
      exact ⟨_, rfl, .dat (.int n), by simp [T_e0, tup_int], rfl⟩
  rw [List.map_id] at q
  rw [T_]
  generalize T_ (j + 1) = r at q ⊢
  simp [T_2, T_1, isB, q]
theorem tup_lst (j : Nat) (ns : List Int) (hl : ns.length ≤ 1000) : T_ (j + 2) [.dat (.lst (ns.map D.int))] [] = some (.dat (.tup (ns.map D.int)), []) := by
  have q : lcLoop yes (tgName 1) mYes (T_e0 (T_ (j + 1))) [.dat (.lst (ns.map D.int)), .no] (ns.map D.int) [] [] = some ((ns.map D.int).map id, []) :=
    lc_map (g := id) (ns.map D.int) (by rw [List.length_map]; omega) fun d hd => by
      obtain ⟨n, _, rfl⟩ := List.mem_map.mp hd
      exact ⟨_, rfl, .dat (.int n), by simp [T_e0, tup_int], rfl⟩
  rw [List.map_id] at q
  rw [T_]
  generalize T_ (j + 1) = r at q ⊢
  simp [T_2, T_1, isB, q]
end DL
set_option Elab.async false
set_option linter.all false
set_option maxRecDepth 100000
set_option maxHeartbeats 1000000

namespace DL
inductive Fo where
  | by (a : Int) | part (t b : Int) | cells (w s : Int) | any (x y : Fo) | both (x y : Fo)
/-- a form that may be made -/
def Fo.ok : Fo → Prop
  | .by a => 0 ≤ a
  | .part t b => 0 ≤ t ∧ t < b
  | .cells w _ => 0 < w
  | .any x y => x.ok ∧ y.ok
  | .both x y => x.ok ∧ y.ok
def Fo.near : Fo → Int → Int → Prop
  | .by a, x, y => (x - y).natAbs ≤ a
  | .part t b, x, y => ((x - y).natAbs : Int) * b ≤ t * max (x.natAbs : Int) (y.natAbs : Int)
  | .cells w s, x, y => (x - s) / w = (y - s) / w
  | .any f g, x, y => f.near x y ∨ g.near x y
  | .both f g, x, y => f.near x y ∧ g.near x y
def partR (t b n : Int) : Int × Int :=
  let z := (n.natAbs : Int)
  let i := z - z * t / b
  let o := z * b / (b - t)
  if 0 ≤ n then (i, o) else (-o, -i)
def Fo.reach : Fo → Int → Int × Int
  | .by a, n => (n - a, n + a)
  | .part t b, n => partR t b n
  | .cells w s, n => (s + (n - s) / w * w, s + (n - s) / w * w + w - 1)
  | .any f g, n => (min (f.reach n).1 (g.reach n).1, max (f.reach n).2 (g.reach n).2)
  | .both f g, n => (max (f.reach n).1 (g.reach n).1, min (f.reach n).2 (g.reach n).2)
/-- the part's own reckoning, for n ≥ 0 -/
theorem part_pos {t b z y : Int} (h0 : 0 ≤ t) (h1 : t < b) (hz : 0 ≤ z) : ((z - y).natAbs : Int) * b ≤ t * max z (y.natAbs : Int) ↔ z - z * t / b ≤ y ∧ y ≤ z * b / (b - t) := by
  have hb : 0 < b := by omega
  have hbt : 0 < b - t := by omega
  have e1 : z - z * t / b ≤ y ↔ (z - y) * b ≤ z * t := by
    rw [← Int.le_ediv_iff_mul_le hb]
    omega
  have e2 : y ≤ z * b / (b - t) ↔ y * (b - t) ≤ z * b := Int.le_ediv_iff_mul_le hbt
  rw [e1, e2]
  by_cases hy : z < y
  · have a1 : ((z - y).natAbs : Int) = y - z := by omega
    have a2 : max z (y.natAbs : Int) = y := by omega
    rw [a1, a2]
    have n1 : (z - y) * b ≤ z * t := by
      have p1 : (z - y) * b ≤ 0 := Int.mul_nonpos_of_nonpos_of_nonneg (by omega) (by omega)
      have p2 : 0 ≤ z * t := Int.mul_nonneg hz h0
      omega
    have q1 : (y - z) * b = y * b - z * b := Int.sub_mul ..
    have q2 : y * (b - t) = y * b - y * t := Int.mul_sub ..
    have q3 : t * y = y * t := Int.mul_comm ..
    constructor
    · intro h
      exact ⟨n1, by omega⟩
    · rintro ⟨_, h⟩
      omega
  · have hy' : y ≤ z := by omega
    have a1 : ((z - y).natAbs : Int) = z - y := by omega
    rw [a1]
    have up : y * (b - t) ≤ z * b := by
      have p1 : y * (b - t) ≤ z * (b - t) := Int.mul_le_mul_of_nonneg_right hy' (by omega)
      have p2 : z * (b - t) = z * b - z * t := Int.mul_sub ..
      have p3 : 0 ≤ z * t := Int.mul_nonneg hz h0
      omega
    by_cases hm : -z ≤ y
    · have a2 : max z (y.natAbs : Int) = z := by omega
      rw [a2, Int.mul_comm t z]
      exact ⟨fun h => ⟨h, up⟩, fun h => h.1⟩
    · have a2 : max z (y.natAbs : Int) = -y := by omega
      rw [a2]
      have q1 : (z - y) * b = z * b - y * b := Int.sub_mul ..
      have q2 : t * -y = -(y * t) := by rw [Int.mul_neg, Int.mul_comm]
      have p0 : (z + y) * b < 0 := Int.mul_neg_of_neg_of_pos (by omega) hb
      have p1 : 0 ≤ z * b := Int.mul_nonneg hz (by omega)
      have p2 : y * (b - t) < 0 := Int.mul_neg_of_neg_of_pos (by omega) hbt
      have p3 : y * (b - t) = y * b - y * t := Int.mul_sub ..
      have p4 : z * t ≤ z * b := Int.mul_le_mul_of_nonneg_left (by omega) hz
      have p5 : z * (b - t) = z * b - z * t := Int.mul_sub ..
      have p6 : y * b < 0 := Int.mul_neg_of_neg_of_pos (by omega) hb
      have p7 : 0 ≤ z * t := Int.mul_nonneg hz h0
      have p8 : (z + y) * b = z * b + y * b := Int.add_mul ..
      constructor
      · intro h
        exact ⟨by omega, up⟩
      · rintro ⟨h, _⟩
        exfalso
        -- (z - y) b ≤ z t, y < -z
        omega
theorem near_iff : ∀ (f : Fo), f.ok → ∀ n : Int, ((f.reach n).1 ≤ n ∧ n ≤ (f.reach n).2) ∧ ∀ y, f.near n y ↔ (f.reach n).1 ≤ y ∧ y ≤ (f.reach n).2
  | .by a, h, n => by
    have h : 0 ≤ a := h
    refine ⟨⟨show n - a ≤ n by omega, show n ≤ n + a by omega⟩, fun y => ?_⟩
    show ((n - y).natAbs : Int) ≤ a ↔ n - a ≤ y ∧ y ≤ n + a
    omega
  | .part t b, h, n => by
    obtain ⟨h0, h1⟩ := h
    have key : ∀ y, Fo.near (.part t b) n y ↔ (partR t b n).1 ≤ y ∧ y ≤ (partR t b n).2 := fun y => by
      show ((n - y).natAbs : Int) * b ≤ t * max (n.natAbs : Int) (y.natAbs : Int) ↔ _
      unfold partR
      by_cases hn : 0 ≤ n
      · rw [if_pos hn]
        have := part_pos (y := y) h0 h1 (Int.natCast_nonneg n.natAbs)
        have e : (n.natAbs : Int) = n := by omega
        rw [e] at this ⊢
        exact this
      · rw [if_neg hn]
        have := part_pos (y := -y) h0 h1 (Int.natCast_nonneg n.natAbs)
        have e : (n.natAbs : Int) - -y = -(n - y) := by omega
        rw [e, Int.natAbs_neg, Int.natAbs_neg] at this
        rw [this]
        constructor
        · rintro ⟨a, b⟩
          exact ⟨by dsimp only; omega, by dsimp only; omega⟩
        · rintro ⟨a, b⟩
          dsimp only at a b
          exact ⟨by omega, by omega⟩
    refine ⟨(key n).mp ?_, key⟩
    show ((n - n).natAbs : Int) * b ≤ t * max (n.natAbs : Int) (n.natAbs : Int)
    have : (n - n).natAbs = 0 := by omega
    rw [this]
    simp only [Int.ofNat_zero, Int.natCast_zero, Int.zero_mul]
    exact Int.mul_nonneg h0 (by omega)
  | .cells w s, h, n => by
    have h : 0 < w := h
    have e1 := Int.emod_add_mul_ediv (n - s) w
    have e2 := Int.emod_nonneg (n - s) (show w ≠ 0 by omega)
    have e3 := Int.emod_lt_of_pos (n - s) h
    have key : ∀ y, Fo.near (.cells w s) n y ↔ s + (n - s) / w * w ≤ y ∧ y ≤ s + (n - s) / w * w + w - 1 := fun y => by
      show (n - s) / w = (y - s) / w ↔ _
      have f1 : (n - s) / w = (y - s) / w ↔ (n - s) / w ≤ (y - s) / w ∧ (y - s) / w < (n - s) / w + 1 := by omega
      rw [f1, Int.le_ediv_iff_mul_le h, Int.ediv_lt_iff_lt_mul h, Int.add_mul]
      omega
    exact ⟨(key n).mp rfl, key⟩
  | .any f g, h, n => by
    obtain ⟨a1, a2⟩ := near_iff f h.1 n
    obtain ⟨b1, b2⟩ := near_iff g h.2 n
    refine ⟨⟨show min _ _ ≤ n by omega, show n ≤ max _ _ by omega⟩, fun y => ?_⟩
    show (f.near n y ∨ g.near n y) ↔ min _ _ ≤ y ∧ y ≤ max _ _
    rw [a2, b2]
    omega
  | .both f g, h, n => by
    obtain ⟨a1, a2⟩ := near_iff f h.1 n
    obtain ⟨b1, b2⟩ := near_iff g h.2 n
    refine ⟨⟨show max _ _ ≤ n by omega, show n ≤ min _ _ by omega⟩, fun y => ?_⟩
    show (f.near n y ∧ g.near n y) ↔ max _ _ ≤ y ∧ y ≤ min _ _
    rw [a2, b2]
    omega
end DL
set_option Elab.async false
set_option linter.all false
set_option maxRecDepth 100000
set_option maxHeartbeats 1000000

namespace DL
open PySem L2
def M_Slack_init : MIn := mInit 3 3 (mbTup [0, 1] (mTup (mCons (mVar 1) (mCons (mVar 2) mNil))))
def M_Slack_part_0 : MS := mNever
def M_Slack_part_1 : MS := (mIfS (mtNot (mB (mChain fLeI fLtI (mC (.int 0)) (mVar 0) (mVar 1)))) M_Slack_part_0 mNx)
def M_Slack_part_2 : MS := (mRet (mMake 0 M_Slack_init (mCons (mC (.str "part")) (mCons (mTup (mCons (mVar 0) (mCons (mVar 1) mNil))) mNil))))
def M_Slack_part : MF := mDef 2 2
  (mSeq M_Slack_part_1
  M_Slack_part_2)
def M_Slack_reach_by_part_0 : MS := (mAsg (tgPair 2 3) (mAttr 0 1 (mVar 0)))
def M_Slack_reach_by_part_1 : MS := (mSet 4 (mCb fAbs (mCons (mVar 1) mNil)))
def M_Slack_reach_by_part_2 : MS := (mPar false false 5 6 (mOp fSub (mVar 4) (mOp fDiv (mOp fMul (mVar 4) (mVar 2)) (mVar 3))) (mOp fDiv (mOp fMul (mVar 4) (mVar 3)) (mOp fSub (mVar 3) (mVar 2))))
def M_Slack_reach_by_part_3 : MS := (mRet (mIf (mB (mOp fGeI (mVar 1) (mC (.int 0)))) (mTup (mCons (mVar 5) (mCons (mVar 6) mNil))) (mTup (mCons (mUn (fun i => -i) (mVar 6)) (mCons (mUn (fun i => -i) (mVar 5)) mNil)))))
def M_Slack_reach_by_part : MF := mDef 2 7
  (mSeq M_Slack_reach_by_part_0
  (mSeq M_Slack_reach_by_part_1
  (mSeq M_Slack_reach_by_part_2
  M_Slack_reach_by_part_3)))
def M_Slack_reach_0 (r : MF) : MS := (mRet (mTup (mCons (mOp fSub (mVar 1) (mOp fIx (mAttr 0 1 (mVar 0)) (mC (.int 0)))) (mCons (mOp fAdd (mVar 1) (mOp fIx (mAttr 0 1 (mVar 0)) (mC (.int 0)))) mNil))))
def M_Slack_reach_1 (r : MF) : MS := (mIfS (mB (mOp (fEq false) (mAttr 0 0 (mVar 0)) (mC (.str "by")))) (M_Slack_reach_0 r) mNx)
def M_Slack_reach_2 (r : MF) : MS := (mRet (mMeth 0 (callX M_Slack_reach_by_part) (mVar 0) (mCons (mVar 1) mNil)))
def M_Slack_reach_3 (r : MF) : MS := (mIfS (mB (mOp (fEq false) (mAttr 0 0 (mVar 0)) (mC (.str "part")))) (M_Slack_reach_2 r) mNx)
def M_Slack_reach_4 (r : MF) : MS := (mAsg (tgPair 2 3) (mAttr 0 1 (mVar 0)))
def M_Slack_reach_5 (r : MF) : MS := (mSet 4 (mOp fAdd (mVar 3) (mOp fMul (mOp fDiv (mOp fSub (mVar 1) (mVar 3)) (mVar 2)) (mVar 2))))
def M_Slack_reach_6 (r : MF) : MS := (mRet (mTup (mCons (mVar 4) (mCons (mOp fSub (mOp fAdd (mVar 4) (mVar 2)) (mC (.int 1))) mNil))))
def M_Slack_reach_7 (r : MF) : MS := (mIfS (mB (mOp (fEq false) (mAttr 0 0 (mVar 0)) (mC (.str "cells")))) (mSeq (M_Slack_reach_4 r)
  (mSeq (M_Slack_reach_5 r)
  (M_Slack_reach_6 r))) mNx)
def M_Slack_reach_8 (r : MF) : MS := (mAsg (tgPair 5 6) (mMeth 0 (callX r) (mOp fIx (mAttr 0 1 (mVar 0)) (mC (.int 0))) (mCons (mVar 1) mNil)))
def M_Slack_reach_9 (r : MF) : MS := (mAsg (tgPair 4 7) (mMeth 0 (callX r) (mOp fIx (mAttr 0 1 (mVar 0)) (mC (.int 1))) (mCons (mVar 1) mNil)))
def M_Slack_reach_10 (r : MF) : MS := (mRet (mTup (mCons (mCb fMin (mCons (mCb fInt (mCons (mVar 5) mNil)) (mCons (mCb fInt (mCons (mVar 4) mNil)) mNil))) (mCons (mCb fMax (mCons (mCb fInt (mCons (mVar 6) mNil)) (mCons (mCb fInt (mCons (mVar 7) mNil)) mNil))) mNil))))
def M_Slack_reach_11 (r : MF) : MS := (mIfS (mB (mOp (fEq false) (mAttr 0 0 (mVar 0)) (mC (.str "|")))) (M_Slack_reach_10 r) mNx)
def M_Slack_reach_12 (r : MF) : MS := (mRet (mTup (mCons (mCb fMax (mCons (mCb fInt (mCons (mVar 5) mNil)) (mCons (mCb fInt (mCons (mVar 4) mNil)) mNil))) (mCons (mCb fMin (mCons (mCb fInt (mCons (mVar 6) mNil)) (mCons (mCb fInt (mCons (mVar 7) mNil)) mNil))) mNil))))
def M_Slack_reach : Nat → MF
  | 0 => fun _ _ => none
  | j + 1 => mDef 2 8 (mSeq (M_Slack_reach_1 (M_Slack_reach j))
      (mSeq (M_Slack_reach_3 (M_Slack_reach j))
      (mSeq (M_Slack_reach_7 (M_Slack_reach j))
      (mSeq (M_Slack_reach_8 (M_Slack_reach j))
      (mSeq (M_Slack_reach_9 (M_Slack_reach j))
      (mSeq (M_Slack_reach_11 (M_Slack_reach j))
      (M_Slack_reach_12 (M_Slack_reach j))))))))
def M_Slack_cells_0 : MS := (mRet (mMake 0 M_Slack_init (mCons (mC (.str "cells")) (mCons (mTup (mCons (mVar 0) (mCons (mVar 1) mNil))) mNil))))
def M_Slack_cells : MF := mDef 2 2
  M_Slack_cells_0
def M_Slack_by_0 : MS := (mRet (mMake 0 M_Slack_init (mCons (mC (.str "by")) (mCons (mTup (mCons (mVar 0) mNil)) mNil))))
def M_Slack_by : MF := mDef 1 1
  M_Slack_by_0
def M_is_number_0 : MS := (mRet (mAnd (mIsiA "int" (mVar 0)) (mNot (mIsiA "bool" (mVar 0)))))
def M_is_number : MF := mDef 1 1
  M_is_number_0
def M_slack_of_0 : MS := (mRet (mIf (mB (mCall (callX M_is_number) (mCons (mVar 0) mNil))) (mCall (callX M_Slack_by) (mCons (mVar 0) mNil)) (mVar 0)))
def M_slack_of : MF := mDef 1 1
  M_slack_of_0
def M_Slack_or_0 : MS := (mRet (mMake 0 M_Slack_init (mCons (mC (.str "|")) (mCons (mTup (mCons (mVar 0) (mCons (mCall (callX M_slack_of) (mCons (mVar 1) mNil)) mNil))) mNil))))
def M_Slack_or : MF := mDef 2 2
  M_Slack_or_0
def M_Slack_and_0 : MS := (mRet (mMake 0 M_Slack_init (mCons (mC (.str "&")) (mCons (mTup (mCons (mVar 0) (mCons (mCall (callX M_slack_of) (mCons (mVar 1) mNil)) mNil))) mNil))))
def M_Slack_and : MF := mDef 2 2
  M_Slack_and_0
def Fo.toF : Fo → D
  | .by a => .tup [.str "by", .int a]
  | .part t b => .tup [.str "part", .int t, .int b]
  | .cells w s => .tup [.str "cells", .int w, .int s]
  | .any x y => .tup [.str "|", x.toF, y.toF]
  | .both x y => .tup [.str "&", x.toF, y.toF]
def Fo.toS : Fo → D
  | .by a => .ins 0 [.str "by", .tup [.int a]]
  | .part t b => .ins 0 [.str "part", .tup [.int t, .int b]]
  | .cells w s => .ins 0 [.str "cells", .tup [.int w, .int s]]
  | .any x y => .ins 0 [.str "|", .tup [x.toS, y.toS]]
  | .both x y => .ins 0 [.str "&", .tup [x.toS, y.toS]]
/-- .. within the bounds of the rules -/
def Fo.small : Fo → Prop
  | .by _ => True
  | .part _ b => b < 1073741824
  | .cells w _ => w < 1073741824
  | .any x y => x.small ∧ y.small
  | .both x y => x.small ∧ y.small
def Fo.deep : Fo → Nat
  | .any x y => max x.deep y.deep + 1
  | .both x y => max x.deep y.deep + 1
  | _ => 0
theorem init_eq {a b : D} : M_Slack_init [.dat a, .dat b] [] = some ([a, b], []) := rfl
theorem by_ok {a : Int} : M_Slack_by [.dat (.int a)] [] = some (.dat (Fo.by a).toS, []) := rfl
theorem cells_ok' {w s : Int} : M_Slack_cells [.dat (.int w), .dat (.int s)] [] = some (.dat (Fo.cells w s).toS, []) := rfl
theorem part_ok {t b : Int} (h : (Fo.part t b).ok) : M_Slack_part [.dat (.int t), .dat (.int b)] [] = some (.dat (Fo.part t b).toS, []) := by
  obtain ⟨h1, h2⟩ := h
  simp [M_Slack_part, M_Slack_part_1, M_Slack_part_2, h1, h2, init_eq, Fo.toS]
end DL
set_option Elab.async false
set_option linter.all false
set_option maxRecDepth 100000
set_option maxHeartbeats 1000000
namespace DL
open PySem L2
@[simp] theorem sn0 : (Str.ofString "|" = Str.ofString "by") = False := eq_false (by decide +kernel)
@[simp] theorem sn1 : (Str.ofString "|" = Str.ofString "part") = False := eq_false (by decide +kernel)
@[simp] theorem sn2 : (Str.ofString "|" = Str.ofString "cells") = False := eq_false (by decide +kernel)
@[simp] theorem sn3 : (Str.ofString "&" = Str.ofString "by") = False := eq_false (by decide +kernel)
@[simp] theorem sn4 : (Str.ofString "&" = Str.ofString "part") = False := eq_false (by decide +kernel)
@[simp] theorem sn5 : (Str.ofString "&" = Str.ofString "cells") = False := eq_false (by decide +kernel)
@[simp] theorem sn6 : (Str.ofString "&" = Str.ofString "|") = False := eq_false (by decide +kernel)
@[simp] theorem sn7 : (Str.ofString "part" = Str.ofString "by") = False := eq_false (by decide +kernel)
@[simp] theorem sn8 : (Str.ofString "cells" = Str.ofString "by") = False := eq_false (by decide +kernel)
@[simp] theorem sn9 : (Str.ofString "cells" = Str.ofString "part") = False := eq_false (by decide +kernel)
@[simp] theorem sn10 : (Str.ofString "by" = Str.ofString "part") = False := eq_false (by decide +kernel)
@[simp] theorem sn11 : (Str.ofString "by" = Str.ofString "cells") = False := eq_false (by decide +kernel)
@[simp] theorem sn12 : (Str.ofString "part" = Str.ofString "cells") = False := eq_false (by decide +kernel)
@[simp] theorem sn13 : (Str.ofString "by" = Str.ofString "|") = False := eq_false (by decide +kernel)
@[simp] theorem sn14 : (Str.ofString "by" = Str.ofString "&") = False := eq_false (by decide +kernel)
@[simp] theorem sn15 : (Str.ofString "part" = Str.ofString "|") = False := eq_false (by decide +kernel)
@[simp] theorem sn16 : (Str.ofString "part" = Str.ofString "&") = False := eq_false (by decide +kernel)
@[simp] theorem sn17 : (Str.ofString "cells" = Str.ofString "|") = False := eq_false (by decide +kernel)
@[simp] theorem sn18 : (Str.ofString "cells" = Str.ofString "&") = False := eq_false (by decide +kernel)
@[simp] theorem sn19 : (Str.ofString "|" = Str.ofString "&") = False := eq_false (by decide +kernel)
theorem seq_nx {m1 m2 : MS} {δ δ' : Sl} {μ μ' : Mu} (h : m1 δ μ = some (.nx δ' μ')) : mSeq m1 m2 δ μ = m2 δ' μ' := by
  unfold mSeq
  rw [h]
theorem seq_rt {m1 m2 : MS} {δ : Sl} {μ μ' : Mu} {r : R} (h : m1 δ μ = some (.rt r μ')) : mSeq m1 m2 δ μ = some (.rt r μ') := by
  unfold mSeq
  rw [h]
theorem def_rt {n N : Nat} {body : MS} {rs : List R} {μ μ' : Mu} {d : D} (hl : rs.length = n) (h : body (rs ++ List.replicate (N - n) .no) μ = some (.rt (.dat d) μ')) (hlow : lowM μ.length μ' = true := by first | rfl | simp) : mDef n N body rs μ = some (.dat d, μ'.take μ.length) := by
  unfold mDef
  rw [if_pos hl, h]
  dsimp only [retR]
  rw [hlow]
theorem rbp_2 {t b z : Int} {x0 x1 x5 x6 : R} (h0 : 0 < b) (h1 : b < 1073741824) (h2 : t < b) (h3 : b - t < 1073741824) (c1 : cMul z t = true) (c2 : cMul z b = true) :
    M_Slack_reach_by_part_2 [x0, x1, .dat (.int t), .dat (.int b), .dat (.int z), x5, x6] [] = some (.nx [x0, x1, .dat (.int t), .dat (.int b), .dat (.int z), .dat (.int (z - z * t / b)), .dat (.int (z * b / (b - t)))] []) := by
  simp [M_Slack_reach_by_part_2, h0, h1, h2, h3, c1, c2]
theorem rbp_1 {n : Int} {x0 x2 x3 x4 x5 x6 : R} : M_Slack_reach_by_part_1 [x0, .dat (.int n), x2, x3, x4, x5, x6] [] = some (.nx [x0, .dat (.int n), x2, x3, .dat (.int (n.natAbs : Int)), x5, x6] []) := by
  have ez : (if n < 0 then -n else n) = (n.natAbs : Int) := by split <;> omega
  rw [← ez]
  rfl
theorem rbp_3 {n i o : Int} {x0 x2 x3 x4 : R} : M_Slack_reach_by_part_3 [x0, .dat (.int n), x2, x3, x4, .dat (.int i), .dat (.int o)] [] = some (.rt (.dat (if 0 ≤ n then .tup [.int i, .int o] else .tup [.int (-o), .int (-i)])) []) := by
  by_cases hn : 0 ≤ n
  · simp [M_Slack_reach_by_part_3, hn]
  · simp [M_Slack_reach_by_part_3, hn]
theorem rbp_gen {t b n : Int} (h0 : 0 < b) (hs : b < 1073741824) (h2 : t < b) (h3 : b - t < 1073741824) (c1 : ∀ z, cMul z t = true) (c2 : ∀ z, cMul z b = true) : M_Slack_reach_by_part [.dat (Fo.part t b).toS, .dat (.int n)] [] = some (.dat (.tup [.int (partR t b n).1, .int (partR t b n).2]), []) := by
  have q0 : M_Slack_reach_by_part_0 [.dat (Fo.part t b).toS, .dat (.int n), .no, .no, .no, .no, .no] [] = some (.nx [.dat (Fo.part t b).toS, .dat (.int n), .dat (.int t), .dat (.int b), .no, .no, .no] []) := rfl
  have q1 := rbp_1 (n := n) (x0 := .dat (Fo.part t b).toS) (x2 := .dat (.int t)) (x3 := .dat (.int b)) (x4 := .no) (x5 := .no) (x6 := .no)
  have e : (partR t b n) = if 0 ≤ n then ((n.natAbs : Int) - (n.natAbs : Int) * t / b, (n.natAbs : Int) * b / (b - t)) else (-((n.natAbs : Int) * b / (b - t)), -((n.natAbs : Int) - (n.natAbs : Int) * t / b)) := rfl
  rw [e]
  generalize (n.natAbs : Int) = z at q1 ⊢
  have q2 := rbp_2 (t := t) (b := b) (z := z) (x0 := .dat (Fo.part t b).toS) (x1 := .dat (.int n)) (x5 := .no) (x6 := .no) h0 hs h2 h3 (c1 z) (c2 z)
  have q3 := rbp_3 (n := n) (i := z - z * t / b) (o := z * b / (b - t)) (x0 := .dat (Fo.part t b).toS) (x2 := .dat (.int t)) (x3 := .dat (.int b)) (x4 := .dat (.int z))
  have e2 : D.tup [.int (if 0 ≤ n then (z - z * t / b, z * b / (b - t)) else (-(z * b / (b - t)), -(z - z * t / b))).1, .int (if 0 ≤ n then (z - z * t / b, z * b / (b - t)) else (-(z * b / (b - t)), -(z - z * t / b))).2] = (if 0 ≤ n then D.tup [.int (z - z * t / b), .int (z * b / (b - t))] else .tup [.int (-(z * b / (b - t))), .int (-(z - z * t / b))]) := by
    split <;> rfl
  rw [e2]
  refine def_rt (N := 7) (μ' := []) rfl ?_
  exact (seq_nx q0).trans ((seq_nx q1).trans ((seq_nx q2).trans q3))
theorem rbp_ok {t b n : Int} (h : (Fo.part t b).ok) (hs : (Fo.part t b).small) : M_Slack_reach_by_part [.dat (Fo.part t b).toS, .dat (.int n)] [] = some (.dat (.tup [.int (partR t b n).1, .int (partR t b n).2]), []) := by
  obtain ⟨h1, h2⟩ := h
  have hs : b < 1073741824 := hs
  exact rbp_gen (by omega) hs h2 (by omega) (fun z => cMul_r (by omega) (by omega)) (fun z => cMul_r (by omega) (by omega))
theorem toS_ins : ∀ f : Fo, ∃ xs, f.toS = .ins 0 xs
  | .by _ => ⟨_, rfl⟩
  | .part _ _ => ⟨_, rfl⟩
  | .cells _ _ => ⟨_, rfl⟩
  | .any _ _ => ⟨_, rfl⟩
  | .both _ _ => ⟨_, rfl⟩
theorem reach_ok : ∀ (f : Fo), f.ok → f.small → ∀ (j : Nat) (n : Int), f.deep < j → M_Slack_reach j [.dat f.toS, .dat (.int n)] [] = some (.dat (.tup [.int (f.reach n).1, .int (f.reach n).2]), [])
  | f, ho, hs, 0, n, h => absurd h (by omega)
  | .by a, ho, hs, j + 1, n, h => by
    simp [M_Slack_reach, M_Slack_reach_1, M_Slack_reach_0, Fo.toS, Fo.reach, atI, ixN]
  | .part t b, ho, hs, j + 1, n, h => by
    have e := rbp_ok (n := n) ho hs
    simp [Fo.toS] at e
    simp [M_Slack_reach, M_Slack_reach_1, M_Slack_reach_3, M_Slack_reach_2, Fo.toS, Fo.reach, e]
  | .cells w s, ho, hs, j + 1, n, h => by
    have ho : 0 < w := ho
    have hs : w < 1073741824 := hs
    have c1 : ∀ z : Int, cMul z w = true := fun z => cMul_r (by omega) (by omega)
    simp [M_Slack_reach, M_Slack_reach_1, M_Slack_reach_3, M_Slack_reach_7, M_Slack_reach_4, M_Slack_reach_5, M_Slack_reach_6, Fo.toS, Fo.reach, ho, hs, c1]
  | .any x y, ho, hs, j + 1, n, h => by
    have h : max x.deep y.deep + 1 < j + 1 := h
    have ex := reach_ok x ho.1 hs.1 j n (by omega)
    have ey := reach_ok y ho.2 hs.2 j n (by omega)
    obtain ⟨xs, e1⟩ := toS_ins x
    obtain ⟨ys, e2⟩ := toS_ins y
    rw [e1] at ex
    rw [e2] at ey
    have m1 : ∀ a b : Int, (if b < a then b else a) = min a b := fun a b => by omega
    have m2 : ∀ a b : Int, (if a < b then b else a) = max a b := fun a b => by omega
    simp [M_Slack_reach, M_Slack_reach_1, M_Slack_reach_3, M_Slack_reach_7, M_Slack_reach_8, M_Slack_reach_9, M_Slack_reach_11, M_Slack_reach_10, Fo.toS, Fo.reach, e1, e2, ex, ey, atI, ixN, m1, m2]
  | .both x y, ho, hs, j + 1, n, h => by
    have h : max x.deep y.deep + 1 < j + 1 := h
    have ex := reach_ok x ho.1 hs.1 j n (by omega)
    have ey := reach_ok y ho.2 hs.2 j n (by omega)
    obtain ⟨xs, e1⟩ := toS_ins x
    obtain ⟨ys, e2⟩ := toS_ins y
    rw [e1] at ex
    rw [e2] at ey
    have m1 : ∀ a b : Int, (if b < a then b else a) = min a b := fun a b => by omega
    have m2 : ∀ a b : Int, (if a < b then b else a) = max a b := fun a b => by omega
    simp [M_Slack_reach, M_Slack_reach_1, M_Slack_reach_3, M_Slack_reach_7, M_Slack_reach_8, M_Slack_reach_9, M_Slack_reach_11, M_Slack_reach_12, Fo.toS, Fo.reach, e1, e2, ex, ey, atI, ixN, m1, m2]
end DL
set_option Elab.async false
set_option linter.all false
set_option maxRecDepth 100000
set_option maxHeartbeats 1000000

namespace DL
open PySem L2
def M_plain_0 : MS := (mSet 1 (mOp fIx (mLst (mCons (mC (.str "by")) (mCons (mC (.str "by")) (mCons (mC (.str "by")) (mCons (mC (.str "part")) (mCons (mC (.str "cells")) mNil)))))) (mCall (callX M_take) (mCons (mVar 0) (mCons (mC (.int 5)) mNil)))))
def M_plain_1 : MS := (mRet (mTup (mCons (mC (.str "by")) (mCons (mCall (callX M_of) (mCons (mVar 0) (mCons (mLst (mCons (mC (.int 0)) (mCons (mC (.int 1)) (mCons (mC (.int 1)) (mCons (mC (.int 2)) (mCons (mC (.int 2)) (mCons (mC (.int 3)) (mCons (mC (.int 4)) (mCons (mC (.int 6)) mNil))))))))) mNil))) mNil))))
def M_plain_2 : MS := (mIfS (mB (mOp (fEq false) (mVar 1) (mC (.str "by")))) M_plain_1 mNx)
def M_plain_3 : MS := (mSet 2 (mLst (mCons (mTup (mCons (mC (.int 1)) (mCons (mC (.int 2)) mNil))) (mCons (mTup (mCons (mC (.int 1)) (mCons (mC (.int 3)) mNil))) (mCons (mTup (mCons (mC (.int 1)) (mCons (mC (.int 5)) mNil))) (mCons (mTup (mCons (mC (.int 1)) (mCons (mC (.int 10)) mNil))) (mCons (mTup (mCons (mC (.int 2)) (mCons (mC (.int 3)) mNil))) (mCons (mTup (mCons (mC (.int 0)) (mCons (mC (.int 1)) mNil))) mNil))))))))
def M_plain_4 : MS := (mRet (mOp fAdd (mTup (mCons (mC (.str "part")) mNil)) (mCall (callX M_of) (mCons (mVar 0) (mCons (mVar 2) mNil)))))
def M_plain_5 : MS := (mIfS (mB (mOp (fEq false) (mVar 1) (mC (.str "part")))) (mSeq M_plain_3
  M_plain_4) mNx)
def M_plain_6 : MS := (mRet (mTup (mCons (mC (.str "cells")) (mCons (mCall (callX M_of) (mCons (mVar 0) (mCons (mLst (mCons (mC (.int 1)) (mCons (mC (.int 2)) (mCons (mC (.int 3)) (mCons (mC (.int 5)) (mCons (mC (.int 8)) mNil)))))) mNil))) (mCons (mOp fSub (mCall (callX M_take) (mCons (mVar 0) (mCons (mC (.int 9)) mNil))) (mC (.int 4))) mNil)))))
def M_plain : MF := mDef 1 3
  (mSeq M_plain_0
  (mSeq M_plain_2
  (mSeq M_plain_5
  M_plain_6)))
def M_form_0 (r : MF) : MS := (mRet (mCall (callX M_plain) (mCons (mVar 0) mNil)))
def M_form_1 (r : MF) : MS := (mIfS (mtOr (mB (mOp (fEq false) (mVar 1) (mC (.int 0)))) (mB (mOp fGtI (mCall (callX M_take) (mCons (mVar 0) (mCons (mC (.int 3)) mNil))) (mC (.int 0))))) (M_form_0 r) mNx)
def M_form_2 (r : MF) : MS := (mSet 2 (mCall (callX M_of) (mCons (mVar 0) (mCons (mLst (mCons (mC (.str "|")) (mCons (mC (.str "&")) mNil))) mNil))))
def M_form_3 (r : MF) : MS := (mSet 3 (mCall (callX r) (mCons (mVar 0) (mCons (mOp fSub (mVar 1) (mC (.int 1))) mNil))))
def M_form_4 (r : MF) : MS := (mRet (mTup (mCons (mVar 2) (mCons (mVar 3) (mCons (mCall (callX r) (mCons (mVar 0) (mCons (mOp fSub (mVar 1) (mC (.int 1))) mNil))) mNil)))))
def M_form : Nat → MF
  | 0 => fun _ _ => none
  | j + 1 => mDef 2 4 (mSeq (M_form_1 (M_form j))
      (mSeq (M_form_2 (M_form j))
      (mSeq (M_form_3 (M_form j))
      (M_form_4 (M_form j)))))
def M_slack_0 (r : MF) : MS := (mRet (mCall (callX M_Slack_by) (mCons (mOp fIx (mVar 0) (mC (.int 1))) mNil)))
def M_slack_1 (r : MF) : MS := (mIfS (mB (mOp (fEq false) (mOp fIx (mVar 0) (mC (.int 0))) (mC (.str "by")))) (M_slack_0 r) mNx)
def M_slack_2 (r : MF) : MS := (mRet (mCall (callX M_Slack_part) (mCons (mOp fIx (mVar 0) (mC (.int 1))) (mCons (mOp fIx (mVar 0) (mC (.int 2))) mNil))))
def M_slack_3 (r : MF) : MS := (mIfS (mB (mOp (fEq false) (mOp fIx (mVar 0) (mC (.int 0))) (mC (.str "part")))) (M_slack_2 r) mNx)
def M_slack_4 (r : MF) : MS := (mRet (mCall (callX M_Slack_cells) (mCons (mOp fIx (mVar 0) (mC (.int 1))) (mCons (mOp fIx (mVar 0) (mC (.int 2))) mNil))))
def M_slack_5 (r : MF) : MS := (mIfS (mB (mOp (fEq false) (mOp fIx (mVar 0) (mC (.int 0))) (mC (.str "cells")))) (M_slack_4 r) mNx)
def M_slack_6 (r : MF) : MS := (mRet (mBin 0 (callX M_Slack_or) (mCall (callX r) (mCons (mOp fIx (mVar 0) (mC (.int 1))) mNil)) (mCall (callX r) (mCons (mOp fIx (mVar 0) (mC (.int 2))) mNil))))
def M_slack_7 (r : MF) : MS := (mIfS (mB (mOp (fEq false) (mOp fIx (mVar 0) (mC (.int 0))) (mC (.str "|")))) (M_slack_6 r) mNx)
def M_slack_8 (r : MF) : MS := (mRet (mBin 0 (callX M_Slack_and) (mCall (callX r) (mCons (mOp fIx (mVar 0) (mC (.int 1))) mNil)) (mCall (callX r) (mCons (mOp fIx (mVar 0) (mC (.int 2))) mNil))))
def M_slack : Nat → MF
  | 0 => fun _ _ => none
  | j + 1 => mDef 1 1 (mSeq (M_slack_1 (M_slack j))
      (mSeq (M_slack_3 (M_slack j))
      (mSeq (M_slack_5 (M_slack j))
      (mSeq (M_slack_7 (M_slack j))
      (M_slack_8 (M_slack j))))))
def M_near_0 (r : MF) : MS := (mRet (mOp fLeI (mCb fAbs (mCons (mOp fSub (mVar 1) (mVar 2)) mNil)) (mOp fIx (mVar 0) (mC (.int 1)))))
def M_near_1 (r : MF) : MS := (mIfS (mB (mOp (fEq false) (mOp fIx (mVar 0) (mC (.int 0))) (mC (.str "by")))) (M_near_0 r) mNx)
def M_near_2 (r : MF) : MS := (mSet 3 (mCb fMax (mCons (mCb fInt (mCons (mCb fAbs (mCons (mVar 1) mNil)) mNil)) (mCons (mCb fInt (mCons (mCb fAbs (mCons (mVar 2) mNil)) mNil)) mNil))))
def M_near_3 (r : MF) : MS := (mRet (mOp fLeI (mOp fMul (mCb fAbs (mCons (mOp fSub (mVar 1) (mVar 2)) mNil)) (mOp fIx (mVar 0) (mC (.int 2)))) (mOp fMul (mOp fIx (mVar 0) (mC (.int 1))) (mVar 3))))
def M_near_4 (r : MF) : MS := (mIfS (mB (mOp (fEq false) (mOp fIx (mVar 0) (mC (.int 0))) (mC (.str "part")))) (mSeq (M_near_2 r)
  (M_near_3 r)) mNx)
def M_near_5 (r : MF) : MS := (mPar false false 4 5 (mOp fSub (mVar 1) (mOp fIx (mVar 0) (mC (.int 2)))) (mOp fSub (mVar 2) (mOp fIx (mVar 0) (mC (.int 2)))))
def M_near_6 (r : MF) : MS := (mRet (mOp (fEq false) (mOp fDiv (mVar 4) (mOp fIx (mVar 0) (mC (.int 1)))) (mOp fDiv (mVar 5) (mOp fIx (mVar 0) (mC (.int 1))))))
def M_near_7 (r : MF) : MS := (mIfS (mB (mOp (fEq false) (mOp fIx (mVar 0) (mC (.int 0))) (mC (.str "cells")))) (mSeq (M_near_5 r)
  (M_near_6 r)) mNx)
def M_near_8 (r : MF) : MS := (mSet 4 (mCall (callX r) (mCons (mOp fIx (mVar 0) (mC (.int 1))) (mCons (mVar 1) (mCons (mVar 2) mNil)))))
def M_near_9 (r : MF) : MS := (mSet 5 (mCall (callX r) (mCons (mOp fIx (mVar 0) (mC (.int 2))) (mCons (mVar 1) (mCons (mVar 2) mNil)))))
def M_near_10 (r : MF) : MS := (mRet (mIf (mB (mOp (fEq false) (mOp fIx (mVar 0) (mC (.int 0))) (mC (.str "|")))) (mOr (mVar 4) (mVar 5)) (mAnd (mVar 4) (mVar 5))))
def M_near : Nat → MF
  | 0 => fun _ _ => none
  | j + 1 => mDef 3 6 (mSeq (M_near_1 (M_near j))
      (mSeq (M_near_4 (M_near j))
      (mSeq (M_near_7 (M_near j))
      (mSeq (M_near_8 (M_near j))
      (mSeq (M_near_9 (M_near j))
      (M_near_10 (M_near j)))))))
/-- a form within bounds: of the kinds that are drawn -/
def Fo.fine (n : Nat) (f : Fo) : Prop := f.ok ∧ f.small ∧ f.deep ≤ n
def Fo.nb (f : Fo) (x y : Int) : Bool := decide ((f.reach x).1 ≤ y ∧ y ≤ (f.reach x).2)
theorem nb_iff {f : Fo} (h : f.ok) {x y : Int} : f.nb x y = true ↔ f.near x y := by
  unfold Fo.nb
  rw [decide_eq_true_iff, ((near_iff f h x).2 y)]
theorem of_mem {b xs : List D} {c : Int} (hb : Bx c b) (hc : c < 1099511627776) (h0 : xs ≠ []) (h1 : xs.length ≤ 100000) (P : D → Prop) (hP : ∀ d ∈ xs, P d) : ∃ (d : D) (b' : List D), P d ∧ Bx (c + 1) b' ∧ M_of [.cel 0, .dat (.lst xs)] [.l b] = some (.dat d, [.l b']) := by
  obtain ⟨d, b', h2, h3, h4⟩ := of_ok hb hc h0 h1
  exact ⟨d, b', hP d h2, h3, h4⟩
theorem plain_ok {b : List D} {c : Int} (hb : Bx c b) (hc : c < 1000000000000) : ∃ (f : Fo) (b' : List D), f.fine 0 ∧ Bx (c + 3) b' ∧ M_plain [.cel 0] [.l b] = some (.dat f.toF, [.l b']) := by
  obtain ⟨r, b1, r0, r1, h1, e1⟩ := take_ok hb (by omega) (n := 5) (by omega) (by omega)
  have bm : ∀ {c c' : Int} {b : List D}, Bx c b → c ≤ c' → Bx c' b := fun ⟨x, y, z, h1, h2, h3, h4⟩ h => ⟨x, y, z, h1, h2, by omega, h4⟩
  have hr : r = 0 ∨ r = 1 ∨ r = 2 ∨ r = 3 ∨ r = 4 := by omega
  have by_ : ∀ k : Int, (k = 0 ∨ k = 1 ∨ k = 2) → r = k → ∃ (f : Fo) (b' : List D), f.fine 0 ∧ Bx (c + 3) b' ∧ M_plain [.cel 0] [.l b] = some (.dat f.toF, [.l b']) := by
    intro k hk e
    obtain ⟨d, b2, ⟨a, ha, hd⟩, h2, e2⟩ := of_mem (xs := [.int 0, .int 1, .int 1, .int 2, .int 2, .int 3, .int 4, .int 6]) h1 (by omega) (by simp) (by simp) (fun d => ∃ a : Int, 0 ≤ a ∧ d = .int a) (by simp)
    subst hd
    refine ⟨.by a, b2, ⟨ha, trivial, Nat.le_refl _⟩, bm h2 (by omega), ?_⟩
    subst e
    rcases hk with rfl | rfl | rfl <;> simp [M_plain, M_plain_0, M_plain_1, M_plain_2, e1, e2, atI, ixN, Fo.toF]
  rcases hr with h | h | h | h | h
  · exact by_ 0 (.inl rfl) h
  · exact by_ 1 (.inr (.inl rfl)) h
  · exact by_ 2 (.inr (.inr rfl)) h
  · obtain ⟨d, b2, ⟨t, q, h0, h3, h4, hd⟩, h2, e2⟩ := of_mem (xs := [.tup [.int 1, .int 2], .tup [.int 1, .int 3], .tup [.int 1, .int 5], .tup [.int 1, .int 10], .tup [.int 2, .int 3], .tup [.int 0, .int 1]]) h1 (by omega) (by simp) (by simp) (fun d => ∃ t q : Int, 0 ≤ t ∧ t < q ∧ q < 100 ∧ d = .tup [.int t, .int q]) (by
      intro d hd
      simp at hd
      rcases hd with rfl | rfl | rfl | rfl | rfl | rfl <;> exact ⟨_, _, by decide, by decide, by decide, rfl⟩)
    subst hd
    refine ⟨.part t q, b2, ⟨⟨h0, h3⟩, show q < 1073741824 by omega, Nat.le_refl _⟩, bm h2 (by omega), ?_⟩
    subst h
    simp [M_plain, M_plain_0, M_plain_1, M_plain_2, M_plain_3, M_plain_4, M_plain_5, e1, e2, atI, ixN, Fo.toF]
  · obtain ⟨d, b2, ⟨a, ha, ha2, hd⟩, h2, e2⟩ := of_mem (xs := [.int 1, .int 2, .int 3, .int 5, .int 8]) h1 (by omega) (by simp) (by simp) (fun d => ∃ a : Int, 0 < a ∧ a < 100 ∧ d = .int a) (by simp)
    subst hd
    obtain ⟨s, b3, s0, s1, h3, e3⟩ := take_ok h2 (by omega) (n := 9) (by omega) (by omega)
    refine ⟨.cells a (s - 4), b3, ⟨ha, show a < 1073741824 by omega, Nat.le_refl _⟩, bm h3 (by omega), ?_⟩
    subst h
    simp [M_plain, M_plain_0, M_plain_1, M_plain_2, M_plain_5, M_plain_6, e1, e2, e3, atI, ixN, Fo.toF]
theorem Bx.mono {c c' : Int} {b : List D} : Bx c b → c ≤ c' → Bx c' b := fun ⟨x, y, z, h1, h2, h3, h4⟩ h => ⟨x, y, z, h1, h2, by omega, h4⟩
theorem Fo.fine.mono {n m : Nat} {f : Fo} (h : f.fine n) (e : n ≤ m) : f.fine m := ⟨h.1, h.2.1, Nat.le_trans h.2.2 e⟩
/-- how many draws a form takes at the most -/
def drw : Nat → Int
  | 0 => 3
  | n + 1 => 2 + 2 * drw n + 3
theorem drw_pos : ∀ n, 3 ≤ drw n
  | 0 => Int.le_refl _
  | n + 1 => by
    have := drw_pos n
    show (3 : Int) ≤ 2 + 2 * drw n + 3
    omega
theorem form_ok : ∀ (n j : Nat) {b : List D} {c : Int}, n < j → Bx c b → c + drw n < 1000000000000 → ∃ (f : Fo) (b' : List D), f.fine n ∧ Bx (c + drw n) b' ∧ M_form j [.cel 0, .dat (.int n)] [.l b] = some (.dat f.toF, [.l b'])
  | n, 0, _, _, h, _, _ => absurd h (by omega)
  | 0, j + 1, b, c, h, hb, hc => by
    obtain ⟨f, b', h1, h2, h3⟩ := plain_ok hb (show c < 1000000000000 by have := drw_pos 0; omega)
    exact ⟨f, b', h1, h2, by simp [M_form, M_form_1, M_form_0, h3]⟩
  | n + 1, j + 1, b, c, h, hb, hc => by
    have dp := drw_pos n
    have hc : c + (2 + 2 * drw n + 3) < 1000000000000 := hc
    show ∃ (f : Fo) (b' : List D), f.fine (n + 1) ∧ Bx (c + (2 + 2 * drw n + 3)) b' ∧ _
    obtain ⟨r, b1, r0, r1, h1, e1⟩ := take_ok hb (by omega) (n := 3) (by omega) (by omega)
    have hn : ¬ ((n : Int) + 1 = 0) := by omega
    by_cases hr : 0 < r
    · obtain ⟨f, b2, h2, h3, h4⟩ := plain_ok h1 (by omega)
      exact ⟨f, b2, h2.mono (by omega), h3.mono (by omega), by simp [M_form, M_form_1, M_form_0, e1, hr, h4, hn]⟩
    · obtain ⟨d, b2, hd, h2, e2⟩ := of_mem (xs := [.str "|", .str "&"]) h1 (by omega) (by simp) (by simp) (fun d => d = .str "|" ∨ d = .str "&") (by simp)
      obtain ⟨f, b3, h3, h4, e3⟩ := form_ok n j (by omega) h2 (by omega)
      obtain ⟨g, b4, h5, h6, e4⟩ := form_ok n j (by omega) h4 (by omega)
      rcases hd with rfl | rfl
      · refine ⟨.any f g, b4, ⟨⟨h3.1, h5.1⟩, ⟨h3.2.1, h5.2.1⟩, ?_⟩, h6.mono (by omega), ?_⟩
        · show max f.deep g.deep + 1 ≤ n + 1
          have := h3.2.2; have := h5.2.2
          omega
        · simp [M_form, M_form_1, M_form_0, M_form_2, M_form_3, M_form_4, e1, e2, e3, e4, hr, hn, Fo.toF]
      · refine ⟨.both f g, b4, ⟨⟨h3.1, h5.1⟩, ⟨h3.2.1, h5.2.1⟩, ?_⟩, h6.mono (by omega), ?_⟩
        · show max f.deep g.deep + 1 ≤ n + 1
          have := h3.2.2; have := h5.2.2
          omega
        · simp [M_form, M_form_1, M_form_0, M_form_2, M_form_3, M_form_4, e1, e2, e3, e4, hr, hn, Fo.toF]
theorem is_num_int {a : Int} : M_is_number [.dat (.int a)] [] = some (.dat (.bl true), []) := by
  simp [M_is_number, M_is_number_0, isB]
theorem is_num_ins {xs : List D} : M_is_number [.dat (.ins 0 xs)] [] = some (.dat (.bl false), []) := by
  simp [M_is_number, M_is_number_0]
theorem slof_int {a : Int} : M_slack_of [.dat (.int a)] [] = some (.dat (Fo.by a).toS, []) := by
  simp [M_slack_of, M_slack_of_0, is_num_int, by_ok]
theorem slof_ins {xs : List D} : M_slack_of [.dat (.ins 0 xs)] [] = some (.dat (.ins 0 xs), []) := by
  simp [M_slack_of, M_slack_of_0, is_num_ins]
theorem slof_ok (f : Fo) : M_slack_of [.dat f.toS] [] = some (.dat f.toS, []) := by
  obtain ⟨xs, e⟩ := toS_ins f
  rw [e]
  exact slof_ins
theorem or_ok (f g : Fo) : M_Slack_or [.dat f.toS, .dat g.toS] [] = some (.dat (Fo.any f g).toS, []) := by
  simp [M_Slack_or, M_Slack_or_0, slof_ok, init_eq, Fo.toS]
theorem and_ok (f g : Fo) : M_Slack_and [.dat f.toS, .dat g.toS] [] = some (.dat (Fo.both f g).toS, []) := by
  simp [M_Slack_and, M_Slack_and_0, slof_ok, init_eq, Fo.toS]
theorem slack_ok : ∀ (f : Fo) (j : Nat), f.ok → f.deep < j → M_slack j [.dat f.toF] [] = some (.dat f.toS, [])
  | f, 0, _, h => absurd h (by omega)
  | .by a, j + 1, ho, h => by
    simp [M_slack, M_slack_1, M_slack_0, Fo.toF, by_ok, atI, ixN]
  | .part t b, j + 1, ho, h => by
    simp [M_slack, M_slack_1, M_slack_2, M_slack_3, Fo.toF, part_ok ho, atI, ixN]
  | .cells w s, j + 1, ho, h => by
    simp [M_slack, M_slack_1, M_slack_3, M_slack_4, M_slack_5, Fo.toF, cells_ok', atI, ixN]
  | .any x y, j + 1, ho, h => by
    have h : max x.deep y.deep + 1 < j + 1 := h
    have ex := slack_ok x j ho.1 (by omega)
    have ey := slack_ok y j ho.2 (by omega)
    have eo := or_ok x y
    obtain ⟨xs, e1⟩ := toS_ins x
    obtain ⟨ys, e2⟩ := toS_ins y
    rw [e1] at ex eo
    rw [e2] at ey eo
    simp [M_slack, M_slack_1, M_slack_3, M_slack_5, M_slack_6, M_slack_7, Fo.toF, ex, ey, eo, atI, ixN]
  | .both x y, j + 1, ho, h => by
    have h : max x.deep y.deep + 1 < j + 1 := h
    have ex := slack_ok x j ho.1 (by omega)
    have ey := slack_ok y j ho.2 (by omega)
    have eo := and_ok x y
    obtain ⟨xs, e1⟩ := toS_ins x
    obtain ⟨ys, e2⟩ := toS_ins y
    rw [e1] at ex eo
    rw [e2] at ey eo
    simp [M_slack, M_slack_1, M_slack_3, M_slack_5, M_slack_7, M_slack_8, Fo.toF, ex, ey, eo, atI, ixN]
theorem abs_nat (i : Int) : (if i < 0 then -i else i) = (i.natAbs : Int) := by split <;> omega
theorem max_if (a b : Int) : (if a < b then b else a) = max a b := by omega
theorem max_ifN (a b : Nat) : (if a < b then (b : Int) else (a : Int)) = max (a : Int) (b : Int) := by omega
theorem lnear_by {r : MF} {a x y : Int} : mDef 3 6 (mSeq (M_near_1 r) (mSeq (M_near_4 r) (mSeq (M_near_7 r) (mSeq (M_near_8 r) (mSeq (M_near_9 r) (M_near_10 r)))))) [.dat (Fo.by a).toF, .dat (.int x), .dat (.int y)] [] = some (.dat (.bl (decide ((x - y).natAbs ≤ a))), []) := by
  simp [M_near_1, M_near_0, Fo.toF, atI, ixN, abs_nat]
theorem lnear_part0 {r : MF} {t b x y : Int} (c1 : ∀ z, cMul z b = true) (c2 : ∀ z, cMul t z = true) : mDef 3 6 (mSeq (M_near_1 r) (mSeq (M_near_4 r) (mSeq (M_near_7 r) (mSeq (M_near_8 r) (mSeq (M_near_9 r) (M_near_10 r)))))) [.dat (Fo.part t b).toF, .dat (.int x), .dat (.int y)] [] = some (.dat (.bl (decide ((if x - y < 0 then -(x - y) else x - y) * b ≤ t * (if (if x < 0 then -x else x) < (if y < 0 then -y else y) then (if y < 0 then -y else y) else (if x < 0 then -x else x))))), []) := by
  simp [M_near_1, M_near_2, M_near_3, M_near_4, Fo.toF, atI, ixN, c1, c2]
theorem lnear_part {r : MF} {t b x y : Int} (c1 : ∀ z, cMul z b = true) (c2 : ∀ z, cMul t z = true) : mDef 3 6 (mSeq (M_near_1 r) (mSeq (M_near_4 r) (mSeq (M_near_7 r) (mSeq (M_near_8 r) (mSeq (M_near_9 r) (M_near_10 r)))))) [.dat (Fo.part t b).toF, .dat (.int x), .dat (.int y)] [] = some (.dat (.bl (decide (((x - y).natAbs : Int) * b ≤ t * max (x.natAbs : Int) (y.natAbs : Int)))), []) := by
  have e := lnear_part0 (r := r) (x := x) (y := y) c1 c2
  rw [abs_nat, abs_nat, abs_nat, max_if] at e
  exact e
theorem lnear_cells {r : MF} {w s x y : Int} (ho : 0 < w) (hs : w < 1073741824) : mDef 3 6 (mSeq (M_near_1 r) (mSeq (M_near_4 r) (mSeq (M_near_7 r) (mSeq (M_near_8 r) (mSeq (M_near_9 r) (M_near_10 r)))))) [.dat (Fo.cells w s).toF, .dat (.int x), .dat (.int y)] [] = some (.dat (.bl (decide ((x - s) / w = (y - s) / w))), []) := by
  simp [M_near_1, M_near_4, M_near_5, M_near_6, M_near_7, Fo.toF, atI, ixN, ho, hs]
theorem lnear_any {r : MF} {f g : Fo} {x y : Int} {p q : Bool} (ex : r [.dat f.toF, .dat (.int x), .dat (.int y)] [] = some (.dat (.bl p), [])) (ey : r [.dat g.toF, .dat (.int x), .dat (.int y)] [] = some (.dat (.bl q), [])) : mDef 3 6 (mSeq (M_near_1 r) (mSeq (M_near_4 r) (mSeq (M_near_7 r) (mSeq (M_near_8 r) (mSeq (M_near_9 r) (M_near_10 r)))))) [.dat (Fo.any f g).toF, .dat (.int x), .dat (.int y)] [] = some (.dat (.bl (p || q)), []) := by
  cases p <;> simp [M_near_1, M_near_4, M_near_7, M_near_8, M_near_9, M_near_10, Fo.toF, atI, ixN, ex, ey]
theorem lnear_both {r : MF} {f g : Fo} {x y : Int} {p q : Bool} (ex : r [.dat f.toF, .dat (.int x), .dat (.int y)] [] = some (.dat (.bl p), [])) (ey : r [.dat g.toF, .dat (.int x), .dat (.int y)] [] = some (.dat (.bl q), [])) : mDef 3 6 (mSeq (M_near_1 r) (mSeq (M_near_4 r) (mSeq (M_near_7 r) (mSeq (M_near_8 r) (mSeq (M_near_9 r) (M_near_10 r)))))) [.dat (Fo.both f g).toF, .dat (.int x), .dat (.int y)] [] = some (.dat (.bl (p && q)), []) := by
  cases p <;> simp [M_near_1, M_near_4, M_near_7, M_near_8, M_near_9, M_near_10, Fo.toF, atI, ixN, ex, ey]
theorem nb_by {a : Int} (ho : (Fo.by a).ok) (x y : Int) : (Fo.by a).nb x y = decide ((x - y).natAbs ≤ a) := by
  rw [Bool.eq_iff_iff, nb_iff ho, decide_eq_true_iff]
  exact Iff.rfl
theorem nb_part {t b : Int} (ho : (Fo.part t b).ok) (x y : Int) : (Fo.part t b).nb x y = decide (((x - y).natAbs : Int) * b ≤ t * max (x.natAbs : Int) (y.natAbs : Int)) := by
  rw [Bool.eq_iff_iff, nb_iff ho, decide_eq_true_iff]
  exact Iff.rfl
theorem nb_cells {w s : Int} (ho : (Fo.cells w s).ok) (x y : Int) : (Fo.cells w s).nb x y = decide ((x - s) / w = (y - s) / w) := by
  rw [Bool.eq_iff_iff, nb_iff ho, decide_eq_true_iff]
  exact Iff.rfl
theorem nb_any {f g : Fo} (ho : (Fo.any f g).ok) (x y : Int) : (Fo.any f g).nb x y = (f.nb x y || g.nb x y) := by
  rw [Bool.eq_iff_iff, nb_iff ho, Bool.or_eq_true, nb_iff ho.1, nb_iff ho.2]
  exact Iff.rfl
theorem nb_both {f g : Fo} (ho : (Fo.both f g).ok) (x y : Int) : (Fo.both f g).nb x y = (f.nb x y && g.nb x y) := by
  rw [Bool.eq_iff_iff, nb_iff ho, Bool.and_eq_true, nb_iff ho.1, nb_iff ho.2]
  exact Iff.rfl
theorem lnear_ok (f : Fo) : ∀ (j : Nat), f.ok → f.small → f.deep < j → ∀ x y : Int, M_near j [.dat f.toF, .dat (.int x), .dat (.int y)] [] = some (.dat (.bl (f.nb x y)), []) := by
  induction f with
  | «by» a =>
    intro j ho hs h x y
    cases j with
    | zero => exact absurd h (by omega)
    | succ j => rw [nb_by ho]; exact lnear_by
  | part t b =>
    intro j ho hs h x y
    cases j with
    | zero => exact absurd h (by omega)
    | succ j =>
      rw [nb_part ho]
      have hs : b < 1073741824 := hs
      have ho1 : 0 ≤ t := ho.1
      have ho2 : t < b := ho.2
      exact lnear_part (fun z => cMul_r (by omega) (by omega)) (fun z => cMul_l (by omega) (by omega))
  | cells w s =>
    intro j ho hs h x y
    cases j with
    | zero => exact absurd h (by omega)
    | succ j => rw [nb_cells ho]; exact lnear_cells ho hs
  | any f g ihf ihg =>
    intro j ho hs h x y
    cases j with
    | zero => exact absurd h (by omega)
    | succ j =>
      have h : max f.deep g.deep + 1 < j + 1 := h
      rw [nb_any ho]
      exact lnear_any (ihf j ho.1 hs.1 (by omega) x y) (ihg j ho.2 hs.2 (by omega) x y)
  | both f g ihf ihg =>
    intro j ho hs h x y
    cases j with
    | zero => exact absurd h (by omega)
    | succ j =>
      have h : max f.deep g.deep + 1 < j + 1 := h
      rw [nb_both ho]
      exact lnear_both (ihf j ho.1 hs.1 (by omega) x y) (ihg j ho.2 hs.2 (by omega) x y)
end DL
set_option Elab.async false
set_option linter.all false
set_option maxRecDepth 100000
set_option maxHeartbeats 1000000
namespace DL
open PySem L2

section
variable {m ma mb : ME} {ms : MA} {mt : MT} {m1 m2 : MS} {δ δ1 δ2 : Sl} {μ μ1 μ2 : Mu} {r : R} {rs : List R} {f : MF} {mi : MI} {t : TGT} {xs ys : List D} {gd : Mu → Bool} {me : ME} {vs : List Nat} {z : R} {d : D} {i : Nat} {fl : Flo} {k : Bool}
theorem cons_eq (hr : ∀ c, r ≠ .fc c) (h : m δ μ = some (r, μ1)) (h2 : ms δ μ1 = some (rs, μ2)) : mCons m ms δ μ = some (froz r :: rs, μ2) := by
  unfold mCons
  rw [h]
  cases r with
  | fc c => exact absurd rfl (hr c)
  | no => dsimp only; rw [h2]
  | dat d => dsimp only; rw [h2]
  | cel k => dsimp only; rw [h2]
  | fr xs => dsimp only; rw [h2]
theorem consD (h : m δ μ = some (.dat d, μ1)) (h2 : ms δ μ1 = some (rs, μ2)) : mCons m ms δ μ = some (.dat d :: rs, μ2) := cons_eq (fun _ z => by cases z) h h2
theorem consF (h : m δ μ = some (.fr xs, μ1)) (h2 : ms δ μ1 = some (rs, μ2)) : mCons m ms δ μ = some (.dat (.lst xs) :: rs, μ2) := cons_eq (fun _ z => by cases z) h h2
theorem consC {j : Nat} (h : m δ μ = some (.cel j, μ1)) (h2 : ms δ μ1 = some (rs, μ2)) : mCons m ms δ μ = some (.cel j :: rs, μ2) := cons_eq (fun _ z => by cases z) h h2
theorem cb_eq {f : List R → Mu → Option R} (h : ms δ μ = some (rs, μ1)) (h2 : f rs μ1 = some z) : mCb f ms δ μ = some (z, μ1) := by
  unfold mCb
  rw [h]
  dsimp only
  rw [h2]
theorem call_eq (h : ms δ μ = some (rs, μ1)) (h2 : f rs μ1 = some (r, μ2)) : mCall f ms δ μ = some (r, μ2) := by
  unfold mCall
  rw [h]
  exact h2
theorem lc_eq {mt : MT} (h : mi δ μ = some (xs, gd, μ1)) (h2 : lcLoop gd t mt me (wipeR δ vs) xs [] μ1 = some (ys, μ2)) : mLc mi t mt me vs δ μ = some (.fr ys, μ2) := by
  simp only [mLc, h, h2]
theorem for_eq (h : mi δ μ = some (xs, gd, μ1)) (h2 : loop gd t m1 xs δ μ1 = some fl) : mFor mi t m1 δ μ = some fl := by
  unfold mFor
  rw [h]
  exact h2
theorem b_eq (h : m δ μ = some (.dat (.bl k), μ1)) : mB m δ μ = some (k, μ1) := by
  unfold mB
  rw [h]
theorem not_eq (h : mt δ μ = some (k, μ1)) : mtNot mt δ μ = some (!k, μ1) := by
  unfold mtNot
  rw [h]
theorem ifT_eq (h : mt δ μ = some (true, μ1)) (h2 : m1 δ μ1 = some fl) : mIfS mt m1 m2 δ μ = some fl := by
  unfold mIfS
  rw [h]
  exact h2
theorem ifF_eq (h : mt δ μ = some (false, μ1)) (h2 : m2 δ μ1 = some fl) : mIfS mt m1 m2 δ μ = some fl := by
  unfold mIfS
  rw [h]
  exact h2
theorem ret_eq (h : m δ μ = some (r, μ1)) : mRet m δ μ = some (.rt r μ1) := by
  unfold mRet
  rw [h]
theorem setC_eq (h : m δ μ = some (.fr xs, μ1)) : mSetC i m δ μ = some (.nx (δ.set i (.cel μ1.length)) (μ1 ++ [.l xs])) := by
  unfold mSetC
  rw [h]
theorem set_eq (h : m δ μ = some (.dat d, μ1)) : mSet i m δ μ = some (.nx (δ.set i (.dat d)) μ1) := by
  unfold mSet
  rw [h]
  rfl
theorem set_eqL (h : m δ μ = some (.fr xs, μ1)) : mSet i m δ μ = some (.nx (δ.set i (.dat (.lst xs))) μ1) := by
  unfold mSet
  rw [h]
  rfl
theorem itR1_eq {n : Int} (h : ms δ μ = some ([.dat (.int n)], μ1)) (h0 : -1000000 ≤ n) (h3 : n ≤ 1000000) : mItR1 ms δ μ = some (rgD 0 n, yes, μ1) := by
  have hb : (-(2 ^ 62) : Int) ≤ n ∧ n < 2 ^ 62 := ⟨by omega, by omega⟩
  simp only [mItR1, h, hb, and_self, if_true]
theorem itR2_eq {n a : Int} (h : ms δ μ = some ([.dat (.int a), .dat (.int n)], μ1)) (h0 : -1000000 ≤ a) (h1 : a ≤ 1000000) (h2 : -1000000 ≤ n) (h3 : n ≤ 1000000) : mItR2 ms δ μ = some (rgD a n, yes, μ1) := by
  have hb : (-(2 ^ 62) : Int) ≤ a ∧ a < 2 ^ 62 ∧ (-(2 ^ 62) : Int) ≤ n ∧ n < 2 ^ 62 := ⟨by omega, by omega, by omega, by omega⟩
  simp only [mItR2, h, hb, and_self, if_true]
theorem callX0 (h : cellsIn rs = []) (h2 : f rs [] = some (.dat d, [])) : callX f rs μ = some (.dat d, μ) := by
  unfold callX
  rw [h]
  dsimp only
  rw [h2]
  rfl
theorem callX0f (h : cellsIn rs = []) (h2 : f rs [] = some (.fr xs, [])) : callX f rs μ = some (.fr xs, μ) := by
  unfold callX
  rw [h]
  dsimp only
  rw [h2]
  rfl
theorem callX1 {j : Nat} {b b' : List D} {ν : Mu} (h : cellsIn rs = [j]) (hj : μ[j]? = some (.l b)) (h2 : f (reCel rs) [.l b] = some (r, [.l b'])) (hp : plainR r = true) : callX f rs μ = some (r, μ.set j (.l b')) := by
  unfold callX
  rw [h]
  dsimp only
  rw [hj]
  dsimp only
  rw [if_pos (show Cel.low 0 (Cel.l b) = true from rfl), h2]
  dsimp only
  rw [if_pos ⟨hp, rfl⟩]
end

/-- a comprehension whose elements change the last cell, all of them true -/
theorem lc_box {t : TGT} {me : ME} {δ : Sl} {P : Int → List D → Prop} {k N : Int} {ν : Mu} (hk : 0 ≤ k)
    (h : ∀ d, ∃ δ1, t d δ = some δ1 ∧ ∀ b c, P c b → c ≤ N → ∃ b', P (c + k) b' ∧ me δ1 (ν ++ [.l b]) = some (.dat (.bl true), ν ++ [.l b'])) : ∀ (xs acc b : List D) (c : Int), P c b → c + k * xs.length ≤ N → acc.length + xs.length ≤ 100000 → ∃ b', P (c + k * xs.length) b' ∧ lcLoop yes t mYes me δ xs acc (ν ++ [.l b]) = some (acc ++ xs.map (fun _ => .bl true), ν ++ [.l b'])
  | [], acc, b, c, hb, hc, hl => ⟨b, by simpa using hb, by simp [lcLoop]⟩
  | x :: xs, acc, b, c, hb, hc, hl => by
    obtain ⟨δ1, h1, h2⟩ := h x
    have e0 : ((x :: xs).length : Int) = (xs.length : Int) + 1 := by simp
    have e1 : k * ((x :: xs).length : Int) = k * xs.length + k := by rw [e0, Int.mul_add, Int.mul_one]
    have p0 : 0 ≤ k * (xs.length : Int) := Int.mul_nonneg hk (Int.natCast_nonneg _)
    rw [e1] at hc
    obtain ⟨b1, h3, h4⟩ := h2 b c hb (by omega)
    rw [List.length_cons] at hl
    obtain ⟨b', h5, h6⟩ := lc_box hk h xs (acc ++ [.bl true]) b1 (c + k) h3 (by omega) (by rw [List.length_append]; simp; omega)
    refine ⟨b', ?_, ?_⟩
    · rw [e1, show c + (k * (xs.length : Int) + k) = c + k + k * xs.length by omega]
      exact h5
    · have hl2 : acc.length < 100000 := by omega
      simp only [lcLoop, yes, if_true, h1, mYes, h4, toD, hl2]
      rw [h6, List.append_assoc]
      rfl
theorem blsOf_true : ∀ l : List D, blsOf (l.map fun _ => D.bl true) = some (l.map fun _ => true)
  | [] => rfl
  | x :: l => by simp [blsOf, blsOf_true l]
/-- all of them true -/
theorem fAll_true (l : List D) (μ : Mu) : fAll [.dat (.lst (l.map fun _ => D.bl true))] μ = some (.dat (.bl true)) := by
  simp [fAll, blsOf_true]
def A_0 (most : Int) : MS := (mSet 1 (mCall (callX M_cells) (mCons (mVar 0) (mCons (mC (.int most)) mNil))))
def A_1 : MS := (mSetC 3 (mCall (callX M_box) (mCons (mVar 1) (mCons (mVar 2) mNil))))
def A_e2 (right : MF) : ME := (mCall (callX right) (mCons (mVar 3) mNil))
def A_3 : MS := (mRet (mC (.bl false)))
def A_4 (right : MF) (turns : Int) : MS := (mIfS (mtNot (mB (mCb fAll (mCons (mLc (mItR1 (mCons (mC (.int turns)) mNil)) (tgName 4) mYes (A_e2 right) [4]) mNil)))) A_3 mNx)
def A_b5 (right : MF) (turns : Int) : MS := (mSeq A_1
  (A_4 right turns))
def A_6 (right : MF) (turns : Int) : MS := (mFor (mItR1 (mCons (mCb fLen (mCons (mVar 1) mNil)) mNil)) (tgName 2) (A_b5 right turns))
def A_7 : MS := (mRet (mC (.bl true)))
def M_lawA (right : MF) (most turns : Int) : MF := mDef 1 5
  (mSeq (A_0 most)
  (mSeq (A_6 right turns)
  A_7))
theorem A_0_ok {ns ms : List Int} {most : Int} (h : M_cells [.dat (.scr ns), .dat (.int most)] [] = some (.fr (ms.map D.int), [])) : A_0 most [.dat (.scr ns), .no, .no, .no, .no] [] = some (.nx [.dat (.scr ns), .dat (.lst (ms.map D.int)), .no, .no, .no] []) := by
  simp [A_0, h]
/-- what is asked of the law's own right: it takes at most k draws, and is true -/
def Right (right : MF) (k N : Int) : Prop := 0 ≤ k ∧ ∀ b c, Bx c b → c ≤ N → ∃ b', Bx (c + k) b' ∧ right [.cel 0] [.l b] = some (.dat (.bl true), [.l b'])
theorem A_4_ok {right : MF} {turns : Nat} {k N : Int} (ht : turns ≤ 1000) (hN : k * turns ≤ N) (hr : Right right k N) {x0 x1 x2 x4 : R} {b : List D} {ν : Mu} (hb : Bx 0 b) : ∃ b' , A_4 right turns [x0, x1, x2, .cel ν.length, x4] (ν ++ [.l b]) = some (.nx [x0, x1, x2, .cel ν.length, x4] (ν ++ [.l b'])) := by
  have lc := lc_box (t := tgName 4) (me := A_e2 right) (δ := [x0, x1, x2, .cel ν.length, .no]) (P := Bx) (k := k) (N := N) (ν := ν) hr.1 (fun d => ⟨[x0, x1, x2, .cel ν.length, .dat d], rfl, fun b c h1 h2 => by
    obtain ⟨b', h3, h4⟩ := hr.2 b c h1 h2
    refine ⟨b', h3, call_eq (consC rfl rfl) ?_⟩
    have := callX1 (f := right) (rs := [.cel ν.length]) (μ := ν ++ [.l b]) (j := ν.length) (b := b) (b' := b') (r := .dat (.bl true)) (ν := []) rfl (by simp) h4 rfl
    rw [show (ν ++ [Cel.l b]).set ν.length (.l b') = ν ++ [.l b'] by simp] at this
    exact this⟩) (rgD 0 (turns : Int)) [] b 0 hb (by rw [rgD_len]; simpa using hN) (by rw [rgD_len]; simp; omega)
  obtain ⟨b', _, h2⟩ := lc
  refine ⟨b', ifF_eq (not_eq (k := true) (b_eq (cb_eq (consF (lc_eq (itR1_eq (consD rfl rfl) (by omega) (by omega)) h2) rfl) (fAll_true _ _)))) rfl⟩
theorem box_cell {ns : List Int} {k : Nat} (hk : k ≤ 1000) (μ : Mu) : ∃ b, Bx 0 b ∧ callX M_box [.dat (.lst (ns.map D.int)), .dat (.int k)] μ = some (.fr b, μ) := by
  obtain ⟨b, h1, h2⟩ := box_ok (ns := ns) hk
  exact ⟨b, h1, callX0f rfl h2⟩
theorem A_b5_ok {right : MF} {turns : Nat} {k N : Int} (ht : turns ≤ 1000) (hN : k * turns ≤ N) (hr : Right right k N) {x0 x3 x4 : R} {ms : List Int} {i : Nat} (hi : i ≤ 1000) (μ : Mu) :
    ∃ (x3' : R) (μ' : Mu), A_b5 right turns [x0, .dat (.lst (ms.map D.int)), .dat (.int i), x3, x4] μ = some (.nx [x0, .dat (.lst (ms.map D.int)), .dat (.int i), x3', x4] μ') := by
  obtain ⟨b, h1, h2⟩ := box_cell (ns := ms) hi μ
  obtain ⟨b', h3⟩ := A_4_ok (x0 := x0) (x1 := .dat (.lst (ms.map D.int))) (x2 := .dat (.int i)) (x4 := x4) (ν := μ) ht hN hr h1
  exact ⟨_, _, (seq_nx (setC_eq (call_eq (consD rfl (consD rfl rfl)) h2))).trans h3⟩
theorem A_loop {right : MF} {turns : Nat} {k N : Int} (ht : turns ≤ 1000) (hN : k * turns ≤ N) (hr : Right right k N) {x0 : R} {ms : List Int} : ∀ (is : List Nat) (x2 x3 x4 : R) (μ : Mu), (∀ i ∈ is, i ≤ 1000) → ∃ (x2' x3' x4' : R) (μ' : Mu), loop yes (tgName 2) (A_b5 right turns) (is.map fun i => D.int (i : Nat)) [x0, .dat (.lst (ms.map D.int)), x2, x3, x4] μ = some (.nx [x0, .dat (.lst (ms.map D.int)), x2', x3', x4'] μ')
  | [], x2, x3, x4, μ, _ => ⟨x2, x3, x4, μ, rfl⟩
  | i :: is, x2, x3, x4, μ, h => by
    obtain ⟨x3', μ', h1⟩ := A_b5_ok ht hN hr (x0 := x0) (x3 := x3) (x4 := x4) (ms := ms) (h i List.mem_cons_self) μ
    obtain ⟨y2, y3, y4, ν, h2⟩ := A_loop ht hN hr (x0 := x0) (ms := ms) is (.dat (.int i)) x3' x4 μ' fun j hj => h j (List.mem_cons_of_mem _ hj)
    exact ⟨y2, y3, y4, ν, (loop_cons (δ1 := [x0, .dat (.lst (ms.map D.int)), .dat (.int i), x3, x4]) rfl h1).trans h2⟩
theorem rgD_nat (n : Nat) : rgD 0 (n : Int) = (List.range n).map fun i => D.int (i : Nat) := by
  unfold rgD
  simp
theorem fLen_lst {xs : List D} {n : Nat} (h : xs.length = n) (μ : Mu) : fLen [.dat (.lst xs)] μ = some (.dat (.int (n : Int))) := by
  rw [← h]
  rfl
theorem lawA {right : MF} {most turns : Nat} {k N : Int} (hm : 0 < most) (hm2 : most ≤ 60) (ht : turns ≤ 1000) (hN : k * turns ≤ N) (hr : Right right k N) : ∀ ns : List Int, ns.length ≤ 63 → M_lawA right most turns [.dat (.scr ns)] [] = some (.dat (.bl true), []) := by
  intro ns hn
  obtain ⟨ms, h1, h2, h3⟩ := cells_ok (ns := ns) hm hm2 hn
  obtain ⟨y2, y3, y4, ν, h4⟩ := A_loop ht hN hr (x0 := .dat (.scr ns)) (ms := ms) (List.range ms.length) .no .no .no [] fun i hi => by
    rw [List.mem_range] at hi
    omega
  rw [← rgD_nat] at h4
  refine def_rt (N := 5) (μ' := ν) rfl ?_
  refine (seq_nx (A_0_ok h3)).trans ((seq_nx (for_eq (itR1_eq (consD (cb_eq (consD rfl rfl) (fLen_lst (n := ms.length) (List.length_map ..) _)) rfl) (by omega) (by omega)) h4)).trans rfl)

def B_e1 (right : MF) : ME := (mCall1 right (mCall (callX M_box) (mCons (mVar 1) (mCons (mVar 2) mNil))))
def B_2 (right : MF) : MS := (mRet (mCb fAll (mCons (mLc (mItR1 (mCons (mCb fLen (mCons (mVar 1) mNil)) mNil)) (tgName 2) mYes (B_e1 right) [2]) mNil)))
def B_0 (most : Int) : MS := (mSet 1 (mCall (callX M_cells) (mCons (mVar 0) (mCons (mC (.int most)) mNil))))
def M_lawB (right : MF) (most : Int) : MF := mDef 1 3
  (mSeq (B_0 most)
  (B_2 right))
theorem B_lc {right : MF} {k N : Int} (hN : 0 ≤ N) (hr : Right right k N) {x0 : R} {ms : List Int} (h2 : ms.length ≤ 60) : lcLoop yes (tgName 2) mYes (B_e1 right) [x0, .dat (.lst (ms.map D.int)), .no] (rgD 0 (ms.length : Int)) [] [] = some ((rgD 0 (ms.length : Int)).map fun _ => .bl true, []) :=
  lc_map (g := fun _ => .bl true) (rgD 0 (ms.length : Int)) (by rw [rgD_len]; omega) fun d hd => by
    rw [rgD_ints] at hd
    obtain ⟨n, hn1, rfl⟩ := List.mem_map.mp hd
    obtain ⟨n1, n2⟩ := mem_rgI.mp hn1
    obtain ⟨k, rfl⟩ : ∃ k : Nat, n = (k : Int) := ⟨n.toNat, by omega⟩
    refine ⟨[x0, .dat (.lst (ms.map D.int)), .dat (.int (k : Int))], rfl, .dat (.bl true), ?_, rfl⟩
    obtain ⟨b, h3, h4⟩ := box_cell (ns := ms) (k := k) (by omega) []
    obtain ⟨b', h5, h6⟩ := hr.2 b 0 h3 hN
    have e : mCall (callX M_box) (mCons (mVar 1) (mCons (mVar 2) mNil)) [x0, .dat (.lst (ms.map D.int)), .dat (.int (k : Int))] [] = some (.fr b, []) := call_eq (consD rfl (consD rfl rfl)) h4
    unfold B_e1 mCall1
    rw [e]
    dsimp only
    rw [h6]
    rfl
theorem lawB {right : MF} {most : Nat} {k N : Int} (hm : 0 < most) (hm2 : most ≤ 60) (hN : 0 ≤ N) (hr : Right right k N) : ∀ ns : List Int, ns.length ≤ 63 → M_lawB right most [.dat (.scr ns)] [] = some (.dat (.bl true), []) := by
  intro ns hn
  obtain ⟨ms, h1, h2, h3⟩ := cells_ok (ns := ns) hm hm2 hn
  have h4 := B_lc hN hr (x0 := .dat (.scr ns)) (ms := ms) (by omega)
  refine def_rt (N := 3) (μ' := []) rfl ?_
  have e0 : B_0 (most : Int) [.dat (.scr ns), .no, .no] [] = some (.nx [.dat (.scr ns), .dat (.lst (ms.map D.int)), .no] []) := by
    simp [B_0, h3]
  refine (seq_nx e0).trans (ret_eq (cb_eq (consF (lc_eq (itR1_eq (consD (cb_eq (consD rfl rfl) (fLen_lst (n := ms.length) (List.length_map ..) _)) rfl) (by omega) (by omega)) h4) rfl) (fAll_true _ _)))
end DL
set_option Elab.async false
set_option linter.all false
set_option maxRecDepth 100000
set_option maxHeartbeats 1000000

namespace DL
open PySem L2
def M_Slack_is_near_0 (rc : MF) : MS := (mAsg (tgPair 3 4) (mMeth 0 (callX rc) (mVar 0) (mCons (mVar 1) mNil)))
def M_Slack_is_near_1 (rc : MF) : MS := (mRet (mChain fLeI fLeI (mVar 3) (mVar 2) (mVar 4)))
def M_Slack_is_near (rc : MF) : MF := mDef 3 5
  (mSeq (M_Slack_is_near_0 rc)
  (M_Slack_is_near_1 rc))
def M_are_near_0 (rc : MF) : MS := (mRet (mMeth 0 (callX (M_Slack_is_near rc)) (mCall (callX M_slack_of) (mCons (mVar 0) mNil)) (mCons (mVar 1) (mCons (mVar 2) mNil))))
def M_are_near (rc : MF) : MF := mDef 3 3
  (M_are_near_0 rc)
def M_Slack_call_0 (rc : MF) : MS := (mRet (mMeth 0 (callX (M_Slack_is_near rc)) (mVar 0) (mCons (mVar 1) (mCons (mVar 2) mNil))))
def M_Slack_call (rc : MF) : MF := mDef 3 3
  (M_Slack_call_0 rc)
def M_Slack_ror_0 : MS := (mRet (mMake 0 M_Slack_init (mCons (mC (.str "|")) (mCons (mTup (mCons (mCall (callX M_slack_of) (mCons (mVar 1) mNil)) (mCons (mVar 0) mNil))) mNil))))
def M_Slack_ror : MF := mDef 2 2
  M_Slack_ror_0
def M_Slack_rand_0 : MS := (mRet (mMake 0 M_Slack_init (mCons (mC (.str "&")) (mCons (mTup (mCons (mCall (callX M_slack_of) (mCons (mVar 1) mNil)) (mCons (mVar 0) mNil))) mNil))))
def M_Slack_rand : MF := mDef 2 2
  M_Slack_rand_0
def M_given_0 (sl : MF) : MS := (mRet (mIf (mB (mOp (fEq false) (mCall (callX M_take) (mCons (mVar 0) (mCons (mC (.int 2)) mNil))) (mC (.int 0)))) (mOp fIx (mVar 1) (mC (.int 1))) (mCallK (callX M_Slack_by) 0 1 [0] mNil (mCons (mOp fIx (mVar 1) (mC (.int 1))) mNil))))
def M_given_1 (sl : MF) : MS := (mIfS (mB (mOp (fEq false) (mOp fIx (mVar 1) (mC (.int 0))) (mC (.str "by")))) (M_given_0 sl) mNx)
def M_given_2 (sl : MF) : MS := (mRet (mCallK (callX M_Slack_cells) 0 2 [0, 1] mNil (mCons (mOp fIx (mVar 1) (mC (.int 1))) (mCons (mOp fIx (mVar 1) (mC (.int 2))) mNil))))
def M_given_3 (sl : MF) : MS := (mIfS (mtAnd (mB (mOp (fEq false) (mOp fIx (mVar 1) (mC (.int 0))) (mC (.str "cells")))) (mB (mOp (fEq false) (mCall (callX M_take) (mCons (mVar 0) (mCons (mC (.int 2)) mNil))) (mC (.int 0))))) (M_given_2 sl) mNx)
def M_given_4 (sl : MF) : MS := (mPar false false 2 3 (mOp fIx (mOp fIx (mVar 1) (mC (.int 1))) (mC (.int 1))) (mCall (callX sl) (mCons (mOp fIx (mVar 1) (mC (.int 2))) mNil)))
def M_given_5 (sl : MF) : MS := (mRet (mIf (mB (mOp (fEq false) (mOp fIx (mVar 1) (mC (.int 0))) (mC (.str "|")))) (mOpG (gOr (gII 0 (callX M_Slack_or)) (gOr (gIN 0 (callX M_Slack_or)) (gNI 0 (callX M_Slack_ror)))) (mVar 2) (mVar 3)) (mOpG (gOr (gII 0 (callX M_Slack_and)) (gOr (gIN 0 (callX M_Slack_and)) (gNI 0 (callX M_Slack_rand)))) (mVar 2) (mVar 3))))
def M_given_6 (sl : MF) : MS := (mIfS (mtAnd (mB (mOp (fIn false) (mOp fIx (mVar 1) (mC (.int 0))) (mTup (mCons (mC (.str "|")) (mCons (mC (.str "&")) mNil))))) (mtAnd (mB (mOp (fEq false) (mOp fIx (mOp fIx (mVar 1) (mC (.int 1))) (mC (.int 0))) (mC (.str "by")))) (mB (mOp (fEq true) (mOp fIx (mOp fIx (mVar 1) (mC (.int 2))) (mC (.int 0))) (mC (.str "by")))))) (mSeq (M_given_4 sl)
  (M_given_5 sl)) mNx)
def M_given_7 (sl : MF) : MS := (mRet (mCall (callX sl) (mCons (mVar 1) mNil)))
def M_given (sl : MF) : MF := mDef 2 4
  (mSeq (M_given_1 sl)
  (mSeq (M_given_3 sl)
  (mSeq (M_given_6 sl)
  (M_given_7 sl))))

/-- a reach that is right for forms of depth at most n -/
def RcOk (n : Nat) (rc : MF) : Prop := ∀ f : Fo, f.fine n → ∀ x : Int, rc [.dat f.toS, .dat (.int x)] [] = some (.dat (.tup [.int (f.reach x).1, .int (f.reach x).2]), [])
theorem rcOk (n j : Nat) (h : n < j) : RcOk n (M_Slack_reach j) := fun f hf x => reach_ok f hf.1 hf.2.1 j x (Nat.lt_of_le_of_lt hf.2.2 h)
section
variable {rc : MF} {n : Nat} {f : Fo}
theorem isnear_ok (h : RcOk n rc) (hf : f.fine n) (x y : Int) : M_Slack_is_near rc [.dat f.toS, .dat (.int x), .dat (.int y)] [] = some (.dat (.bl (f.nb x y)), []) := by
  have e := h f hf x
  unfold Fo.nb
  obtain ⟨xs, ex⟩ := toS_ins f
  rw [ex] at e ⊢
  generalize f.reach x = p at e ⊢
  obtain ⟨lo, hi⟩ := p
  dsimp only at e ⊢
  by_cases h1 : lo ≤ y
  · simp [M_Slack_is_near, M_Slack_is_near_0, M_Slack_is_near_1, e, h1]
  · simp [M_Slack_is_near, M_Slack_is_near_0, M_Slack_is_near_1, e, h1]
theorem call_ok (h : RcOk n rc) (hf : f.fine n) (x y : Int) : M_Slack_call rc [.dat f.toS, .dat (.int x), .dat (.int y)] [] = some (.dat (.bl (f.nb x y)), []) := by
  have e := isnear_ok h hf x y
  obtain ⟨xs, ex⟩ := toS_ins f
  rw [ex] at e ⊢
  simp [M_Slack_call, M_Slack_call_0, e]
/-- a slack as it may be handed in: also a number for a fixed amount -/
def Giv (f : Fo) (d : D) : Prop := d = f.toS ∨ ∃ a, f = .by a ∧ d = .int a
theorem slof_giv {d : D} (h : Giv f d) : M_slack_of [.dat d] [] = some (.dat f.toS, []) := by
  rcases h with rfl | ⟨a, rfl, rfl⟩
  · exact slof_ok f
  · exact slof_int
theorem arenear_ok (h : RcOk n rc) (hf : f.fine n) {d : D} (hd : Giv f d) (x y : Int) : M_are_near rc [.dat d, .dat (.int x), .dat (.int y)] [] = some (.dat (.bl (f.nb x y)), []) := by
  have e := isnear_ok h hf x y
  have e2 := slof_giv hd
  obtain ⟨xs, ex⟩ := toS_ins f
  rw [ex] at e e2
  simp [M_are_near, M_are_near_0, e, e2]
end
theorem near_symm : ∀ (f : Fo) (x y : Int), f.near x y ↔ f.near y x
  | .by a, x, y => by
    show ((x - y).natAbs : Int) ≤ a ↔ ((y - x).natAbs : Int) ≤ a
    omega
  | .part t b, x, y => by
    show ((x - y).natAbs : Int) * b ≤ t * max (x.natAbs : Int) (y.natAbs : Int) ↔ ((y - x).natAbs : Int) * b ≤ t * max (y.natAbs : Int) (x.natAbs : Int)
    rw [show (x - y).natAbs = (y - x).natAbs by omega, show max (x.natAbs : Int) (y.natAbs : Int) = max (y.natAbs : Int) (x.natAbs : Int) by omega]
  | .cells w s, x, y => ⟨fun h => Eq.symm h, fun h => Eq.symm h⟩
  | .any f g, x, y => or_congr (near_symm f x y) (near_symm g x y)
  | .both f g, x, y => and_congr (near_symm f x y) (near_symm g x y)
theorem nb_symm {f : Fo} (h : f.ok) (x y : Int) : f.nb x y = f.nb y x := by
  rw [Bool.eq_iff_iff, nb_iff h, nb_iff h]
  exact near_symm f x y
theorem nb_self {f : Fo} (h : f.ok) (x : Int) : f.nb x x = true := by
  unfold Fo.nb
  rw [decide_eq_true_iff]
  exact (near_iff f h x).1
theorem ror_ok (a : Int) (g : Fo) : M_Slack_ror [.dat g.toS, .dat (.int a)] [] = some (.dat (Fo.any (.by a) g).toS, []) := by
  simp [M_Slack_ror, M_Slack_ror_0, slof_int, init_eq, Fo.toS]
theorem rand_ok (a : Int) (g : Fo) : M_Slack_rand [.dat g.toS, .dat (.int a)] [] = some (.dat (Fo.both (.by a) g).toS, []) := by
  simp [M_Slack_rand, M_Slack_rand_0, slof_int, init_eq, Fo.toS]
theorem orN_ok (a : Int) (g : Fo) : M_Slack_or [.dat g.toS, .dat (.int a)] [] = some (.dat (Fo.any g (.by a)).toS, []) := by
  simp [M_Slack_or, M_Slack_or_0, slof_int, init_eq, Fo.toS]
theorem andN_ok (a : Int) (g : Fo) : M_Slack_and [.dat g.toS, .dat (.int a)] [] = some (.dat (Fo.both g (.by a)).toS, []) := by
  simp [M_Slack_and, M_Slack_and_0, slof_int, init_eq, Fo.toS]
def Fo.kd : Fo → Str
  | .by _ => "by"
  | .part _ _ => "part"
  | .cells _ _ => "cells"
  | .any _ _ => "|"
  | .both _ _ => "&"
theorem toF_kd : ∀ f : Fo, ∃ ds, f.toF = .tup (.str f.kd :: ds)
  | .by _ => ⟨_, rfl⟩
  | .part _ _ => ⟨_, rfl⟩
  | .cells _ _ => ⟨_, rfl⟩
  | .any _ _ => ⟨_, rfl⟩
  | .both _ _ => ⟨_, rfl⟩
def SlOk (n : Nat) (sl : MF) : Prop := ∀ f : Fo, f.fine n → sl [.dat f.toF] [] = some (.dat f.toS, [])
theorem slOk (n j : Nat) (h : n < j) : SlOk n (M_slack j) := fun f hf => slack_ok f j hf.1 (Nat.lt_of_le_of_lt hf.2.2 h)
theorem fine_l {n : Nat} {f g : Fo} (h : (Fo.any f g).fine n ∨ (Fo.both f g).fine n) : f.fine n ∧ g.fine n := by
  rcases h with ⟨h1, h2, h3⟩ | ⟨h1, h2, h3⟩
  · have h3 : max f.deep g.deep + 1 ≤ n := h3
    exact ⟨⟨h1.1, h2.1, by omega⟩, ⟨h1.2, h2.2, by omega⟩⟩
  · have h3 : max f.deep g.deep + 1 ≤ n := h3
    exact ⟨⟨h1.1, h2.1, by omega⟩, ⟨h1.2, h2.2, by omega⟩⟩
theorem in_by (μ : Mu) : fIn false (.dat (.str "by")) (.dat (.tup [.str "|", .str "&"])) μ = some (.dat (.bl false)) := by kernel_rfl
theorem in_part (μ : Mu) : fIn false (.dat (.str "part")) (.dat (.tup [.str "|", .str "&"])) μ = some (.dat (.bl false)) := by kernel_rfl
theorem in_cells (μ : Mu) : fIn false (.dat (.str "cells")) (.dat (.tup [.str "|", .str "&"])) μ = some (.dat (.bl false)) := by kernel_rfl
theorem in_any (μ : Mu) : fIn false (.dat (.str "|")) (.dat (.tup [.str "|", .str "&"])) μ = some (.dat (.bl true)) := by kernel_rfl
theorem in_both (μ : Mu) : fIn false (.dat (.str "&")) (.dat (.tup [.str "|", .str "&"])) μ = some (.dat (.bl true)) := by kernel_rfl
theorem given_fall {sl : MF} {n : Nat} {b : List D} {f : Fo} (hs : SlOk n sl) (hf : f.fine n) {x2 x3 : R} : M_given_7 sl [.cel 0, .dat f.toF, x2, x3] [.l b] = some (.rt (.dat f.toS) [.l b]) := by
  simp [M_given_7, hs f hf]
theorem kd_by {f : Fo} : (f.kd = Str.ofString "by") ↔ ∃ a, f = .by a := by
  cases f <;> simp [Fo.kd]
/-- whether a sign's parts are handed in as a number and a slack -/
theorem given_6 {sl : MF} {n : Nat} {b : List D} {f g : Fo} {k : Bool} (hs : SlOk n sl) (hf : (if k then Fo.any f g else Fo.both f g).fine n) :
    M_given_6 sl [.cel 0, .dat (if k then Fo.any f g else Fo.both f g).toF, .no, .no] [.l b] = some (.nx [.cel 0, .dat (if k then Fo.any f g else Fo.both f g).toF, .no, .no] [.l b]) ∨
    M_given_6 sl [.cel 0, .dat (if k then Fo.any f g else Fo.both f g).toF, .no, .no] [.l b] = some (.rt (.dat (if k then Fo.any f g else Fo.both f g).toS) [.l b]) := by
  have hg : g.fine n := by
    cases k
    · exact (fine_l (.inr hf)).2
    · exact (fine_l (.inl hf)).2
  obtain ⟨fs, ef⟩ := toF_kd f
  obtain ⟨gs, eg⟩ := toF_kd g
  by_cases h1 : f.kd = Str.ofString "by"
  · by_cases h2 : g.kd = Str.ofString "by"
    · left
      cases k <;> simp [M_given_6, Fo.toF, ef, eg, h1, h2, atI, ixN, in_any, in_both, -fIn]
    · right
      obtain ⟨a, rfl⟩ := kd_by.mp h1
      have e1 := hs g hg
      have e2 := ror_ok a g
      have e3 := rand_ok a g
      obtain ⟨xs, ex⟩ := toS_ins g
      rw [ex] at e1 e2 e3
      rw [eg] at e1
      cases k <;> simp [M_given_6, M_given_4, M_given_5, Fo.toF, eg, h2, atI, ixN, in_any, in_both, e1, e2, e3, -fIn]
  · left
    cases k <;> simp [M_given_6, Fo.toF, ef, eg, h1, atI, ixN, in_any, in_both, -fIn]
theorem given_ok {sl : MF} {n : Nat} {b : List D} {c : Int} {f : Fo} (hs : SlOk n sl) (hf : f.fine n) (hb : Bx c b) (hc : c < 1000000000000) : ∃ (d : D) (b' : List D), Giv f d ∧ Bx (c + 1) b' ∧ M_given sl [.cel 0, .dat f.toF] [.l b] = some (.dat d, [.l b']) := by
  obtain ⟨r, b1, r0, r1, h1, e1⟩ := take_ok hb (by omega) (n := 2) (by omega) (by omega)
  have fall := given_fall (b := b) (x2 := .no) (x3 := .no) hs hf
  have fall1 := given_fall (b := b1) (x2 := .no) (x3 := .no) hs hf
  have hsign : ∀ (k : Bool) (x y : Fo), f = (if k then Fo.any x y else Fo.both x y) → ∃ (d : D) (b' : List D), Giv f d ∧ Bx (c + 1) b' ∧ M_given sl [.cel 0, .dat f.toF] [.l b] = some (.dat d, [.l b']) := by
    intro k x y e
    subst e
    refine ⟨_, b, .inl rfl, hb.mono (by omega), def_rt (N := 4) (μ' := [.l b]) rfl ?_⟩
    have s1 : M_given_1 sl [.cel 0, .dat (if k then Fo.any x y else Fo.both x y).toF, .no, .no] [.l b] = some (.nx [.cel 0, .dat (if k then Fo.any x y else Fo.both x y).toF, .no, .no] [.l b]) := by
      cases k <;> simp [M_given_1, Fo.toF, atI, ixN]
    have s3 : M_given_3 sl [.cel 0, .dat (if k then Fo.any x y else Fo.both x y).toF, .no, .no] [.l b] = some (.nx [.cel 0, .dat (if k then Fo.any x y else Fo.both x y).toF, .no, .no] [.l b]) := by
      cases k <;> simp [M_given_3, Fo.toF, atI, ixN]
    rcases given_6 (b := b) hs hf with h | h
    · exact (seq_nx s1).trans ((seq_nx s3).trans ((seq_nx h).trans fall))
    · exact (seq_nx s1).trans ((seq_nx s3).trans (seq_rt h))
  cases f with
  | «by» a =>
    by_cases hr : r = 0
    · subst hr
      refine ⟨.int a, b1, .inr ⟨a, rfl, rfl⟩, h1, ?_⟩
      simp [M_given, M_given_1, M_given_0, Fo.toF, atI, ixN, e1]
    · refine ⟨_, b1, .inl rfl, h1, ?_⟩
      simp [M_given, M_given_1, M_given_0, Fo.toF, atI, ixN, e1, hr, by_ok]
  | part t q =>
    refine ⟨_, b, .inl rfl, hb.mono (by omega), def_rt (N := 4) (μ' := [.l b]) rfl ?_⟩
    have s1 : M_given_1 sl [.cel 0, .dat (Fo.part t q).toF, .no, .no] [.l b] = some (.nx [.cel 0, .dat (Fo.part t q).toF, .no, .no] [.l b]) := by
      simp [M_given_1, Fo.toF, atI, ixN]
    have s3 : M_given_3 sl [.cel 0, .dat (Fo.part t q).toF, .no, .no] [.l b] = some (.nx [.cel 0, .dat (Fo.part t q).toF, .no, .no] [.l b]) := by
      simp [M_given_3, Fo.toF, atI, ixN]
    have s6 : M_given_6 sl [.cel 0, .dat (Fo.part t q).toF, .no, .no] [.l b] = some (.nx [.cel 0, .dat (Fo.part t q).toF, .no, .no] [.l b]) := by
      simp [M_given_6, Fo.toF, atI, ixN, in_part, -fIn]
    exact (seq_nx s1).trans ((seq_nx s3).trans ((seq_nx s6).trans fall))
  | cells w s =>
    have s1 : M_given_1 sl [.cel 0, .dat (Fo.cells w s).toF, .no, .no] [.l b] = some (.nx [.cel 0, .dat (Fo.cells w s).toF, .no, .no] [.l b]) := by
      simp [M_given_1, Fo.toF, atI, ixN]
    have s6 : M_given_6 sl [.cel 0, .dat (Fo.cells w s).toF, .no, .no] [.l b1] = some (.nx [.cel 0, .dat (Fo.cells w s).toF, .no, .no] [.l b1]) := by
      simp [M_given_6, Fo.toF, atI, ixN, in_cells, -fIn]
    refine ⟨_, b1, .inl rfl, h1, def_rt (N := 4) (μ' := [.l b1]) rfl ?_⟩
    by_cases hr : r = 0
    · subst hr
      have s3 : M_given_3 sl [.cel 0, .dat (Fo.cells w s).toF, .no, .no] [.l b] = some (.rt (.dat (Fo.cells w s).toS) [.l b1]) := by
        simp [M_given_3, M_given_2, Fo.toF, atI, ixN, e1, cells_ok']
      exact (seq_nx s1).trans (seq_rt s3)
    · have s3 : M_given_3 sl [.cel 0, .dat (Fo.cells w s).toF, .no, .no] [.l b] = some (.nx [.cel 0, .dat (Fo.cells w s).toF, .no, .no] [.l b1]) := by
        simp [M_given_3, Fo.toF, atI, ixN, e1, hr]
      exact (seq_nx s1).trans ((seq_nx s3).trans ((seq_nx s6).trans fall1))
  | any x y => exact hsign true x y rfl
  | both x y => exact hsign false x y rfl
end DL
set_option Elab.async false
set_option linter.all false
set_option maxRecDepth 100000
set_option maxHeartbeats 1000000

namespace DL
open PySem L2
def gdC (k : Nat) (xs : List D) : Mu → Bool := fun μ2 => match μ2[k]? with
  | some (.l ys) => beqDs ys xs
  | _ => false
theorem gdC_true {k : Nat} {xs : List D} {μ : Mu} (h : μ[k]? = some (.l xs)) : gdC k xs μ = true := by
  unfold gdC
  rw [h]
  exact beqDs_refl xs
theorem it_cel {m : ME} {δ : Sl} {μ μ1 : Mu} {k : Nat} {xs : List D} (h : m δ μ = some (.cel k, μ1)) (hx : μ1[k]? = some (.l xs)) : mIt m δ μ = some (xs, gdC k xs, μ1) := by
  have e : mItL m δ μ = some (xs, gdC k xs, μ1) := by
    unfold mItL
    rw [h]
    dsimp only
    rw [hx]
    rfl
  unfold mIt
  rw [e]
theorem it_lst {m : ME} {δ : Sl} {μ μ1 : Mu} {xs : List D} (h : m δ μ = some (.dat (.lst xs), μ1)) : mIt m δ μ = some (xs, yes, μ1) := by
  have e : mItL m δ μ = some (xs, yes, μ1) := by
    unfold mItL
    rw [h]
    rfl
  unfold mIt
  rw [e]
theorem it_fr {m : ME} {δ : Sl} {μ μ1 : Mu} {xs : List D} (h : m δ μ = some (.fr xs, μ1)) : mIt m δ μ = some (xs, yes, μ1) := by
  have e : mItL m δ μ = some (xs, yes, μ1) := by
    unfold mItL
    rw [h]
    rfl
  unfold mIt
  rw [e]
theorem it_tup {m : ME} {δ : Sl} {μ μ1 : Mu} {xs : List D} (h : m δ μ = some (.dat (.tup xs), μ1)) : mIt m δ μ = some (xs, yes, μ1) := by
  have e : mItL m δ μ = none := by
    unfold mItL
    rw [h]
    rfl
  have e2 : mItT m δ μ = some (xs, yes, μ1) := by
    unfold mItT
    rw [h]
    rfl
  unfold mIt
  rw [e, e2]
theorem loop_inv {gd : Mu → Bool} {t : TGT} {mb : MS} {β : Type} {w : β → D} (I : Sl → Mu → Prop) (hg : ∀ δ μ, I δ μ → gd μ = true) : ∀ (xs : List β) (δ : Sl) (μ : Mu), I δ μ →
    (∀ x ∈ xs, ∀ δ μ, I δ μ → ∃ δ1, t (w x) δ = some δ1 ∧ ∃ δ2 μ2, mb δ1 μ = some (.nx δ2 μ2) ∧ I δ2 μ2) → ∃ δ' μ', loop gd t mb (xs.map w) δ μ = some (.nx δ' μ') ∧ I δ' μ'
  | [], δ, μ, h, _ => ⟨δ, μ, by simp [loop, hg δ μ h], h⟩
  | x :: xs, δ, μ, h, hb => by
    obtain ⟨δ1, h1, δ2, μ2, h2, h3⟩ := hb x List.mem_cons_self δ μ h
    obtain ⟨δ', μ', h4, h5⟩ := loop_inv I hg xs δ2 μ2 h3 fun y hy => hb y (List.mem_cons_of_mem _ hy)
    refine ⟨δ', μ', ?_, h5⟩
    rw [List.map_cons]
    simp only [loop, hg δ μ h, if_true, h1, h2]
    exact h4
/-- a loop that only ever changes the state from one to the next -/
theorem loop_st {gd : Mu → Bool} {t : TGT} {mb : MS} {β γ : Type} {w : β → D} (I : γ → Sl → Mu → Prop) (st : γ → β → γ) (hg : ∀ g δ μ, I g δ μ → gd μ = true) : ∀ (xs : List β) (g : γ) (δ : Sl) (μ : Mu), I g δ μ →
    (∀ x ∈ xs, ∀ g δ μ, I g δ μ → ∃ δ1, t (w x) δ = some δ1 ∧ ∃ δ2 μ2, mb δ1 μ = some (.nx δ2 μ2) ∧ I (st g x) δ2 μ2) → ∃ δ' μ', loop gd t mb (xs.map w) δ μ = some (.nx δ' μ') ∧ I (xs.foldl st g) δ' μ'
  | [], g, δ, μ, h, _ => ⟨δ, μ, by simp [loop, hg g δ μ h], h⟩
  | x :: xs, g, δ, μ, h, hb => by
    obtain ⟨δ1, h1, δ2, μ2, h2, h3⟩ := hb x List.mem_cons_self g δ μ h
    obtain ⟨δ', μ', h4, h5⟩ := loop_st I st hg xs (st g x) δ2 μ2 h3 fun y hy => hb y (List.mem_cons_of_mem _ hy)
    refine ⟨δ', μ', ?_, h5⟩
    rw [List.map_cons]
    simp only [loop, hg g δ μ h, if_true, h1, h2]
    exact h4
end DL
set_option Elab.async false
set_option linter.all false
set_option maxRecDepth 100000
set_option maxHeartbeats 1000000

namespace DL
open PySem L2
/-- data without bools, at most so deep -/
def okE : Nat → D → Bool
  | _, .non => true
  | _, .int _ => true
  | _, .str x => PyData.canLay0 (.str x)
  | n + 1, .tup xs => xs.all (okE n)
  | n + 1, .lst xs => xs.all (okE n)
  | _, _ => false
theorem beq_dec {α : Type} [DecidableEq α] [BEq α] [LawfulBEq α] (a b : α) : (a == b) = decide (a = b) := by
  rw [Bool.eq_iff_iff, beq_iff_eq, decide_eq_true_iff]
theorem beqD_int {a b : Int} : beqD (.int a) (.int b) = decide (a = b) := by simp only [beqD, beq_dec]
theorem py_all {n : Nat} (ih : ∀ d, okE n d = true → ∃ p, toPy d = some p ∧ p.canLay0 = true ∧ p.depth ≤ n) : ∀ xs : List D, xs.all (okE n) = true → ∃ ps, toPys xs = some ps ∧ PyData.canLayAll0 ps = true ∧ PyData.depthAll ps ≤ n
  | [], _ => ⟨[], rfl, rfl, Nat.zero_le _⟩
  | x :: xs, h => by
    rw [List.all_cons, Bool.and_eq_true] at h
    obtain ⟨p, h1, h2, h3⟩ := ih x h.1
    obtain ⟨ps, h4, h5, h6⟩ := py_all ih xs h.2
    exact ⟨p :: ps, by simp [toPys, h1, h4], by simp [PyData.canLayAll0, h2, h5], by simp only [PyData.depthAll]; omega⟩
theorem py_ok : ∀ (n : Nat) (d : D), okE n d = true → ∃ p, toPy d = some p ∧ p.canLay0 = true ∧ p.depth ≤ n
  | 0, .non, _ => ⟨_, rfl, rfl, by simp [PyData.depth]⟩
  | n + 1, .non, _ => ⟨_, rfl, rfl, by simp [PyData.depth]⟩
  | 0, .int _, _ => ⟨_, rfl, rfl, by simp [PyData.depth]⟩
  | n + 1, .int _, _ => ⟨_, rfl, rfl, by simp [PyData.depth]⟩
  | 0, .str x, h => ⟨_, rfl, h, by simp [PyData.depth]⟩
  | n + 1, .str x, h => ⟨_, rfl, h, by simp [PyData.depth]⟩
  | n + 1, .tup xs, h => by
    obtain ⟨ps, h1, h2, h3⟩ := py_all (py_ok n) xs h
    exact ⟨.tuple ps, by simp [toPy, h1], by simp [PyData.canLay0, h2], by simp only [PyData.depth]; omega⟩
  | n + 1, .lst xs, h => by
    obtain ⟨ps, h1, h2, h3⟩ := py_all (py_ok n) xs h
    exact ⟨.list ps, by simp [toPy, h1], by simp [PyData.canLay0, h2], by simp only [PyData.depth]; omega⟩
  | 0, .tup _, h => by simp [okE] at h
  | 0, .lst _, h => by simp [okE] at h
  | 0, .bl _, h => by simp [okE] at h
  | n + 1, .bl _, h => by simp [okE] at h
  | 0, .scr _, h => by simp [okE] at h
  | n + 1, .scr _, h => by simp [okE] at h
  | 0, .ins _ _, h => by simp [okE] at h
  | n + 1, .ins _ _, h => by simp [okE] at h
theorem eqv_all {n : Nat} (ih : ∀ d d' p p', okE n d = true → okE n d' = true → toPy d = some p → toPy d' = some p' → PyData.eqv p p' = beqD d d') : ∀ (xs ys : List D) (ps qs : List PyData), xs.all (okE n) = true → ys.all (okE n) = true → toPys xs = some ps → toPys ys = some qs → PyData.eqvAll ps qs = beqDs xs ys
  | [], [], ps, qs, _, _, h1, h2 => by
    cases h1; cases h2
    simp [PyData.eqvAll, beqDs]
  | [], y :: ys, ps, qs, _, h, h1, h2 => by
    cases h1
    unfold toPys at h2
    split at h2
    · cases h2
      simp [PyData.eqvAll, beqDs]
    · cases h2
  | x :: xs, [], ps, qs, _, _, h1, h2 => by
    cases h2
    unfold toPys at h1
    split at h1
    · cases h1
      simp [PyData.eqvAll, beqDs]
    · cases h1
  | x :: xs, y :: ys, ps, qs, h, h', h1, h2 => by
    rw [List.all_cons, Bool.and_eq_true] at h h'
    unfold toPys at h1 h2
    split at h1
    · rename_i p ps' e1 e2
      cases h1
      split at h2
      · rename_i q qs' e3 e4
        cases h2
        simp only [PyData.eqvAll, beqDs]
        rw [ih x y p q h.1 h'.1 e1 e3, eqv_all ih xs ys ps' qs' h.2 h'.2 e2 e4]
      · cases h2
    · cases h1
theorem eqv_ok : ∀ (n : Nat) (d d' : D) (p p' : PyData), okE n d = true → okE n d' = true → toPy d = some p → toPy d' = some p' → PyData.eqv p p' = beqD d d' := by
  intro n
  induction n with
  | zero =>
    intro d d' p p' h h' e e'
    cases d <;> cases d' <;> first | (simp [okE] at h; done) | (simp [okE] at h'; done) | (simp [toPy] at e e'; subst e; subst e'; simp [PyData.eqv, beqD, beq_dec]; done)
  | succ n ih =>
    intro d d' p p' h h' e e'
    have tl : ∀ {xs : List D} {p : PyData}, toPy (.tup xs) = some p → ∃ ps, p = .tuple ps ∧ toPys xs = some ps := by
      intro xs p e
      unfold toPy at e
      split at e
      · rename_i ps e1
        cases e
        exact ⟨ps, rfl, e1⟩
      · cases e
    have ll : ∀ {xs : List D} {p : PyData}, toPy (.lst xs) = some p → ∃ ps, p = .list ps ∧ toPys xs = some ps := by
      intro xs p e
      unfold toPy at e
      split at e
      · rename_i ps e1
        cases e
        exact ⟨ps, rfl, e1⟩
      · cases e
    cases d with
    | bl _ => simp [okE] at h
    | scr _ => simp [okE] at h
    | ins _ _ => simp [okE] at h
    | tup xs =>
      obtain ⟨ps, rfl, e1⟩ := tl e
      cases d' with
      | bl _ => simp [okE] at h'
      | scr _ => simp [okE] at h'
      | ins _ _ => simp [okE] at h'
      | tup ys =>
        obtain ⟨qs, rfl, e2⟩ := tl e'
        simp only [PyData.eqv, beqD]
        exact eqv_all ih xs ys ps qs h h' e1 e2
      | lst ys =>
        obtain ⟨qs, rfl, e2⟩ := ll e'
        simp [PyData.eqv, beqD]
      | non => cases e'; simp [PyData.eqv, beqD]
      | int _ => cases e'; simp [PyData.eqv, beqD]
      | str _ => cases e'; simp [PyData.eqv, beqD]
    | lst xs =>
      obtain ⟨ps, rfl, e1⟩ := ll e
      cases d' with
      | bl _ => simp [okE] at h'
      | scr _ => simp [okE] at h'
      | ins _ _ => simp [okE] at h'
      | tup ys =>
        obtain ⟨qs, rfl, e2⟩ := tl e'
        simp [PyData.eqv, beqD]
      | lst ys =>
        obtain ⟨qs, rfl, e2⟩ := ll e'
        simp only [PyData.eqv, beqD]
        exact eqv_all ih xs ys ps qs h h' e1 e2
      | non => cases e'; simp [PyData.eqv, beqD]
      | int _ => cases e'; simp [PyData.eqv, beqD]
      | str _ => cases e'; simp [PyData.eqv, beqD]
    | non =>
      cases e
      cases d' with
      | bl _ => simp [okE] at h'
      | scr _ => simp [okE] at h'
      | ins _ _ => simp [okE] at h'
      | tup ys => obtain ⟨qs, rfl, e2⟩ := tl e'; simp [PyData.eqv, beqD]
      | lst ys => obtain ⟨qs, rfl, e2⟩ := ll e'; simp [PyData.eqv, beqD]
      | non => cases e'; simp [PyData.eqv, beqD]
      | int _ => cases e'; simp [PyData.eqv, beqD]
      | str _ => cases e'; simp [PyData.eqv, beqD]
    | int _ =>
      cases e
      cases d' with
      | bl _ => simp [okE] at h'
      | scr _ => simp [okE] at h'
      | ins _ _ => simp [okE] at h'
      | tup ys => obtain ⟨qs, rfl, e2⟩ := tl e'; simp [PyData.eqv, beqD]
      | lst ys => obtain ⟨qs, rfl, e2⟩ := ll e'; simp [PyData.eqv, beqD]
      | non => cases e'; simp [PyData.eqv, beqD]
      | int _ => cases e'; simp [PyData.eqv, beqD]
      | str _ => cases e'; simp [PyData.eqv, beqD]
    | str _ =>
      cases e
      cases d' with
      | bl _ => simp [okE] at h'
      | scr _ => simp [okE] at h'
      | ins _ _ => simp [okE] at h'
      | tup ys => obtain ⟨qs, rfl, e2⟩ := tl e'; simp [PyData.eqv, beqD]
      | lst ys => obtain ⟨qs, rfl, e2⟩ := ll e'; simp [PyData.eqv, beqD]
      | non => cases e'; simp [PyData.eqv, beqD]
      | int _ => cases e'; simp [PyData.eqv, beqD]
      | str _ => cases e'; simp [PyData.eqv, beqD, beq_dec]
theorem feq_ok {n : Nat} (hn : n ≤ 64) (neg : Bool) {d d' : D} (h : okE n d = true) (h' : okE n d' = true) (μ : Mu) : fEq neg (.dat d) (.dat d') μ = some (.dat (.bl (xor neg (beqD d d')))) := by
  obtain ⟨p, h1, h2, h3⟩ := py_ok n d h
  obtain ⟨p', h1', h2', h3'⟩ := py_ok n d' h'
  have e := eqv_ok n d d' p p' h h' h1 h1'
  have s1 : SeqAt.shaped p = true := by simp [SeqAt.shaped, h2]; omega
  have s2 : SeqAt.shaped p' = true := by simp [SeqAt.shaped, h2']; omega
  unfold fEq
  split
  · rename_i i j ei ej
    cases ei; cases ej
    simp [beqD, beq_dec]
  · rename_i i j ei ej
    cases ei; cases ej
    simp [beqD, beq_dec]
  · rename_i i j ei ej
    cases ei
    cases n <;> simp [okE] at h
  · simp only [rPy, h1, h1', s1, s2, Bool.and_self, if_true, e]
theorem beqD_iff {a b : D} : beqD a b = true ↔ a = b := ⟨beqD_eq, fun h => by rw [h]; exact beqD_refl b⟩
end DL
set_option Elab.async false
set_option linter.all false
set_option maxRecDepth 100000
set_option maxHeartbeats 1000000

namespace DL
open PySem L2
def M_Slack_form_0 (r : MF) : MS := (mRet (mTup (mCons (mAttr 0 0 (mVar 0)) (mCons (mMeth 0 (callX r) (mOp fIx (mAttr 0 1 (mVar 0)) (mC (.int 0))) mNil) (mCons (mMeth 0 (callX r) (mOp fIx (mAttr 0 1 (mVar 0)) (mC (.int 1))) mNil) mNil)))))
def M_Slack_form_1 (r : MF) : MS := (mIfS (mB (mOp (fIn false) (mAttr 0 0 (mVar 0)) (mTup (mCons (mC (.str "|")) (mCons (mC (.str "&")) mNil))))) (M_Slack_form_0 r) mNx)
def M_Slack_form_2 (r : MF) : MS := (mRet (mTup (mCons (mAttr 0 0 (mVar 0)) (mStar (mAttr 0 1 (mVar 0)) mNil))))
def M_Slack_form : Nat → MF
  | 0 => fun _ _ => none
  | j + 1 => mDef 1 1 (mSeq (M_Slack_form_1 (M_Slack_form j))
      (M_Slack_form_2 (M_Slack_form j)))
def M_Slack_eq_0 (nc : Nat) (fm : MF) : MS := (mRet (mAnd (mIsiO nc 0 (mVar 1)) (mOp (fEq false) (mMeth 0 (callX fm) (mVar 0) mNil) (mMeth 0 (callX fm) (mVar 1) mNil))))
def M_Slack_eq (nc : Nat) (fm : MF) : MF := mDef 2 2
  (M_Slack_eq_0 nc fm)

theorem formS_ok : ∀ (f : Fo) (j : Nat), f.deep < j → M_Slack_form j [.dat f.toS] [] = some (.dat f.toF, [])
  | f, 0, h => absurd h (by omega)
  | .by a, j + 1, h => by
    simp [M_Slack_form, M_Slack_form_1, M_Slack_form_2, Fo.toS, Fo.toF, in_by, -fIn]
  | .part t b, j + 1, h => by
    simp [M_Slack_form, M_Slack_form_1, M_Slack_form_2, Fo.toS, Fo.toF, in_part, -fIn]
  | .cells w s, j + 1, h => by
    simp [M_Slack_form, M_Slack_form_1, M_Slack_form_2, Fo.toS, Fo.toF, in_cells, -fIn]
  | .any x y, j + 1, h => by
    have h : max x.deep y.deep + 1 < j + 1 := h
    have ex := formS_ok x j (by omega)
    have ey := formS_ok y j (by omega)
    obtain ⟨xs, e1⟩ := toS_ins x
    obtain ⟨ys, e2⟩ := toS_ins y
    rw [e1] at ex
    rw [e2] at ey
    simp [M_Slack_form, M_Slack_form_1, M_Slack_form_0, Fo.toS, Fo.toF, in_any, e1, e2, ex, ey, atI, ixN, -fIn]
  | .both x y, j + 1, h => by
    have h : max x.deep y.deep + 1 < j + 1 := h
    have ex := formS_ok x j (by omega)
    have ey := formS_ok y j (by omega)
    obtain ⟨xs, e1⟩ := toS_ins x
    obtain ⟨ys, e2⟩ := toS_ins y
    rw [e1] at ex
    rw [e2] at ey
    simp [M_Slack_form, M_Slack_form_1, M_Slack_form_0, Fo.toS, Fo.toF, in_both, e1, e2, ex, ey, atI, ixN, -fIn]
theorem lay_by : PyData.canLay0 (.str (Str.ofString "by")) = true := by decide +kernel
theorem lay_part : PyData.canLay0 (.str (Str.ofString "part")) = true := by decide +kernel
theorem lay_cells : PyData.canLay0 (.str (Str.ofString "cells")) = true := by decide +kernel
theorem lay_any : PyData.canLay0 (.str (Str.ofString "|")) = true := by decide +kernel
theorem lay_both : PyData.canLay0 (.str (Str.ofString "&")) = true := by decide +kernel
theorem okE_mono : ∀ {n m : Nat} {d : D}, okE n d = true → n ≤ m → okE m d = true
  | n, 0, d, h, e => by
    have : n = 0 := by omega
    subst this
    exact h
  | 0, m + 1, d, h, _ => by cases d <;> first | exact h | (simp [okE] at h)
  | n + 1, m + 1, .tup xs, h, e => by
    have h : xs.all (okE n) = true := h
    show xs.all (okE m) = true
    rw [List.all_eq_true] at h ⊢
    exact fun x hx => okE_mono (h x hx) (by omega)
  | n + 1, m + 1, .lst xs, h, e => by
    have h : xs.all (okE n) = true := h
    show xs.all (okE m) = true
    rw [List.all_eq_true] at h ⊢
    exact fun x hx => okE_mono (h x hx) (by omega)
  | n + 1, m + 1, .non, h, _ => h
  | n + 1, m + 1, .int _, h, _ => h
  | n + 1, m + 1, .str _, h, _ => h
  | n + 1, m + 1, .bl _, h, _ => h
  | n + 1, m + 1, .scr _, h, _ => h
  | n + 1, m + 1, .ins _ _, h, _ => h
theorem toF_okE : ∀ f : Fo, okE (f.deep + 1) f.toF = true
  | .by a => by simp [Fo.toF, Fo.deep, okE, lay_by]
  | .part t b => by simp [Fo.toF, Fo.deep, okE, lay_part]
  | .cells w s => by simp [Fo.toF, Fo.deep, okE, lay_cells]
  | .any x y => by
    have h1 := okE_mono (m := max x.deep y.deep + 1) (toF_okE x) (by omega)
    have h2 := okE_mono (m := max x.deep y.deep + 1) (toF_okE y) (by omega)
    simp [Fo.toF, Fo.deep, okE, lay_any, h1, h2]
  | .both x y => by
    have h1 := okE_mono (m := max x.deep y.deep + 1) (toF_okE x) (by omega)
    have h2 := okE_mono (m := max x.deep y.deep + 1) (toF_okE y) (by omega)
    simp [Fo.toF, Fo.deep, okE, lay_both, h1, h2]
theorem toF_inj : ∀ {f g : Fo}, f.toF = g.toF → f = g
  | .by a, g, h => by cases g <;> simp [Fo.toF] at h <;> simp [h]
  | .part t b, g, h => by cases g <;> simp [Fo.toF] at h <;> simp [h]
  | .cells w s, g, h => by cases g <;> simp [Fo.toF] at h <;> simp [h]
  | .any x y, g, h => by
    cases g <;> simp [Fo.toF] at h
    rw [toF_inj h.1, toF_inj h.2]
  | .both x y, g, h => by
    cases g <;> simp [Fo.toF] at h
    rw [toF_inj h.1, toF_inj h.2]
def Fo.eqb (f g : Fo) : Bool := beqD f.toF g.toF
theorem eqb_iff {f g : Fo} : f.eqb g = true ↔ f = g := by
  unfold Fo.eqb
  rw [beqD_iff]
  exact ⟨toF_inj, fun h => by rw [h]⟩
def FmOk (n : Nat) (fm : MF) : Prop := ∀ f : Fo, f.deep ≤ n → fm [.dat f.toS] [] = some (.dat f.toF, [])
theorem fmOk (n j : Nat) (h : n < j) : FmOk n (M_Slack_form j) := fun f hf => formS_ok f j (by omega)
theorem feqF {n : Nat} (hn : n ≤ 60) (neg : Bool) {f g : Fo} (h1 : f.deep ≤ n) (h2 : g.deep ≤ n) (μ : Mu) : fEq neg (.dat f.toF) (.dat g.toF) μ = some (.dat (.bl (xor neg (f.eqb g)))) :=
  feq_ok (n := n + 1) (by omega) neg (okE_mono (toF_okE f) (by omega)) (okE_mono (toF_okE g) (by omega)) μ
theorem seq_ok {n nc : Nat} {fm : MF} {f g : Fo} (hnc : 0 < nc) (hn : n ≤ 60) (hm : FmOk n fm) (h1 : f.deep ≤ n) (h2 : g.deep ≤ n) : M_Slack_eq nc fm [.dat f.toS, .dat g.toS] [] = some (.dat (.bl (f.eqb g)), []) := by
  have e1 := hm f h1
  have e2 := hm g h2
  have e3 := feqF hn false h1 h2 []
  obtain ⟨xs, ex⟩ := toS_ins f
  obtain ⟨ys, ey⟩ := toS_ins g
  rw [ex] at e1 ⊢
  rw [ey] at e2 ⊢
  simp [M_Slack_eq, M_Slack_eq_0, e1, e2, e3, hnc, -fEq]
theorem seq_no {nc : Nat} {fm : MF} {xs : List D} {d : D} (h : (tag [] (.dat d)).isSome = true) : M_Slack_eq nc fm [.dat (.ins 0 xs), .dat d] [] = some (.dat (.bl false), []) := by
  cases d <;> first | (simp [M_Slack_eq, M_Slack_eq_0]; done) | (simp at h)
end DL
set_option Elab.async false
set_option linter.all false
set_option maxRecDepth 100000
set_option maxHeartbeats 1000000

namespace DL
open PySem L2
def M_first_apart_0 (rc : MF) : MS := (mPar false false 4 5 (mCall (callX M_slack_of) (mCons (mVar 0) mNil)) (mCall (callX M_slack_of) (mCons (mVar 1) mNil)))
def M_first_apart_e1 (rc : MF) : ME := (mCb fMin (mCons (mCb fInt (mCons (mOp fIx (mMeth 0 (callX rc) (mVar 9) (mCons (mVar 6) mNil)) (mC (.int 1))) mNil)) (mCons (mCb fInt (mCons (mVar 3) mNil)) mNil)))
def M_first_apart_2 (rc : MF) : MS := (mAsg (tgTup [(tgName 7), (tgName 8)]) (mLc (mIt (mTup (mCons (mVar 4) (mCons (mVar 5) mNil)))) (tgName 9) mYes (M_first_apart_e1 rc) [9]))
def M_first_apart_3 (rc : MF) : MS := (mRet (mTup (mCons (mVar 6) (mCons (mOp fAdd (mCb fMin (mCons (mCb fInt (mCons (mVar 7) mNil)) (mCons (mCb fInt (mCons (mVar 8) mNil)) mNil))) (mC (.int 1))) mNil))))
def M_first_apart_4 (rc : MF) : MS := (mIfS (mB (mOp (fEq true) (mVar 7) (mVar 8))) (M_first_apart_3 rc) mNx)
def M_first_apart_b5 (rc : MF) : MS := (mSeq (M_first_apart_2 rc)
  (M_first_apart_4 rc))
def M_first_apart_6 (rc : MF) : MS := (mFor (mItR2 (mCons (mVar 2) (mCons (mOp fAdd (mVar 3) (mC (.int 1))) mNil))) (tgName 6) (M_first_apart_b5 rc))
def M_first_apart_7 (rc : MF) : MS := (mRet (mC .non))
def M_first_apart (rc : MF) : MF := mDef 4 10
  (mSeq (M_first_apart_0 rc)
  (mSeq (M_first_apart_6 rc)
  (M_first_apart_7 rc)))

/-- the first pair of a row of numbers -/
def faL (f g : Fo) (hi : Int) : List Int → Option (Int × Int)
  | [] => none
  | n :: ns => if min (f.reach n).2 hi = min (g.reach n).2 hi then faL f g hi ns else some (n, min (min (f.reach n).2 hi) (min (g.reach n).2 hi) + 1)
def fa (f g : Fo) (lo hi : Int) : Option (Int × Int) := faL f g hi (rgI lo (hi + 1))
def apD : Option (Int × Int) → D
  | none => .non
  | some (p, q) => .tup [.int p, .int q]
theorem min_if (a b : Int) : (if b < a then b else a) = min a b := by omega
theorem fa_0 {rc : MF} {f g : Fo} {d d' : D} {lo hi : Int} (hd : Giv f d) (hd' : Giv g d') : M_first_apart_0 rc [.dat d, .dat d', .dat (.int lo), .dat (.int hi), .no, .no, .no, .no, .no, .no] [] = some (.nx [.dat d, .dat d', .dat (.int lo), .dat (.int hi), .dat f.toS, .dat g.toS, .no, .no, .no, .no] []) := by
  simp [M_first_apart_0, slof_giv hd, slof_giv hd']
theorem fa_e1 {rc : MF} {n : Nat} (h : RcOk n rc) {f : Fo} (hf : f.fine n) {x0 x1 x2 x4 x5 x7 x8 : R} {hi z : Int} : M_first_apart_e1 rc [x0, x1, x2, .dat (.int hi), x4, x5, .dat (.int z), x7, x8, .dat f.toS] [] = some (.dat (.int (min (f.reach z).2 hi)), []) := by
  have e := h f hf z
  obtain ⟨xs, ex⟩ := toS_ins f
  rw [ex] at e ⊢
  simp [M_first_apart_e1, e, atI, ixN, min_if]
theorem fa_b5 {rc : MF} {n : Nat} (h : RcOk n rc) {f g : Fo} (hf : f.fine n) (hg : g.fine n) {x0 x1 x2 x7 x8 x9 : R} {hi z : Int} :
    M_first_apart_b5 rc [x0, x1, x2, .dat (.int hi), .dat f.toS, .dat g.toS, .dat (.int z), x7, x8, x9] [] = if min (f.reach z).2 hi = min (g.reach z).2 hi then some (.nx [x0, x1, x2, .dat (.int hi), .dat f.toS, .dat g.toS, .dat (.int z), .dat (.int (min (f.reach z).2 hi)), .dat (.int (min (g.reach z).2 hi)), x9] []) else some (.rt (.dat (.tup [.int z, .int (min (min (f.reach z).2 hi) (min (g.reach z).2 hi) + 1)])) []) := by
  have e1 := fa_e1 h hf (x0 := x0) (x1 := x1) (x2 := x2) (x4 := .dat f.toS) (x5 := .dat g.toS) (x7 := x7) (x8 := x8) (hi := hi) (z := z)
  have e2 := fa_e1 h hg (x0 := x0) (x1 := x1) (x2 := x2) (x4 := .dat f.toS) (x5 := .dat g.toS) (x7 := x7) (x8 := x8) (hi := hi) (z := z)
  generalize min (f.reach z).2 hi = p at e1 ⊢
  generalize min (g.reach z).2 hi = q at e2 ⊢
  generalize f.toS = df at e1 e2 ⊢
  generalize g.toS = dg at e1 e2 ⊢
  have q2 : M_first_apart_2 rc [x0, x1, x2, .dat (.int hi), .dat df, .dat dg, .dat (.int z), x7, x8, x9] [] = some (.nx [x0, x1, x2, .dat (.int hi), .dat df, .dat dg, .dat (.int z), .dat (.int p), .dat (.int q), x9] []) := by
    unfold M_first_apart_2
    generalize M_first_apart_e1 rc = g at e1 e2 ⊢
    simp [lcLoop, e1, e2]
  refine (seq_nx q2).trans ?_
  by_cases hpq : p = q
  · simp [M_first_apart_4, hpq]
  · simp [M_first_apart_4, M_first_apart_3, hpq, min_if]
theorem fa_loop {rc : MF} {n : Nat} (h : RcOk n rc) {f g : Fo} (hf : f.fine n) (hg : g.fine n) {x0 x1 x2 x9 : R} {hi : Int} : ∀ (zs : List Int) (x6 x7 x8 : R), (∃ y6 y7 y8, loop yes (tgName 6) (M_first_apart_b5 rc) (zs.map D.int) [x0, x1, x2, .dat (.int hi), .dat f.toS, .dat g.toS, x6, x7, x8, x9] [] = some (.nx [x0, x1, x2, .dat (.int hi), .dat f.toS, .dat g.toS, y6, y7, y8, x9] []) ∧ faL f g hi zs = none) ∨
    (∃ p, loop yes (tgName 6) (M_first_apart_b5 rc) (zs.map D.int) [x0, x1, x2, .dat (.int hi), .dat f.toS, .dat g.toS, x6, x7, x8, x9] [] = some (.rt (.dat (apD (some p))) []) ∧ faL f g hi zs = some p)
  | [], x6, x7, x8 => .inl ⟨_, _, _, loop_nil, rfl⟩
  | z :: zs, x6, x7, x8 => by
    have b := fa_b5 h hf hg (x0 := x0) (x1 := x1) (x2 := x2) (x7 := x7) (x8 := x8) (x9 := x9) (hi := hi) (z := z)
    rw [List.map_cons]
    unfold faL
    split at b
    · rename_i e
      rw [if_pos e]
      rcases fa_loop h hf hg (x0 := x0) (x1 := x1) (x2 := x2) (x9 := x9) (hi := hi) zs (.dat (.int z)) (.dat (.int (min (f.reach z).2 hi))) (.dat (.int (min (g.reach z).2 hi))) with ⟨y6, y7, y8, h1, h2⟩ | ⟨p, h1, h2⟩
      · exact .inl ⟨y6, y7, y8, (loop_cons rfl b).trans h1, h2⟩
      · exact .inr ⟨p, (loop_cons rfl b).trans h1, h2⟩
    · rename_i e
      rw [if_neg e]
      exact .inr ⟨(z, min (min (f.reach z).2 hi) (min (g.reach z).2 hi) + 1), loop_ret rfl b, rfl⟩
theorem fapart_ok {rc : MF} {n : Nat} (h : RcOk n rc) {f g : Fo} (hf : f.fine n) (hg : g.fine n) {d d' : D} (hd : Giv f d) (hd' : Giv g d') {lo hi : Int} (h1 : -100000 ≤ lo) (h2 : lo ≤ 100000) (h3 : -100000 ≤ hi) (h4 : hi ≤ 100000) :
    M_first_apart rc [.dat d, .dat d', .dat (.int lo), .dat (.int hi)] [] = some (.dat (apD (fa f g lo hi)), []) := by
  have it : mItR2 (mCons (mVar 2) (mCons (mOp fAdd (mVar 3) (mC (.int 1))) mNil)) [.dat d, .dat d', .dat (.int lo), .dat (.int hi), .dat f.toS, .dat g.toS, .no, .no, .no, .no] [] = some ((rgI lo (hi + 1)).map D.int, yes, []) := by
    rw [← rgD_ints]
    exact itR2_eq (consD rfl (consD rfl rfl)) (by omega) (by omega) (by omega) (by omega)
  refine def_rt (N := 10) (μ' := []) rfl ((seq_nx (fa_0 hd hd')).trans ?_)
  rcases fa_loop h hf hg (x0 := .dat d) (x1 := .dat d') (x2 := .dat (.int lo)) (x9 := .no) (hi := hi) (rgI lo (hi + 1)) .no .no .no with ⟨y6, y7, y8, e1, e2⟩ | ⟨p, e1, e2⟩
  · unfold fa
    rw [e2]
    exact (seq_nx (for_eq it e1)).trans rfl
  · unfold fa
    rw [e2]
    exact seq_rt (for_eq it e1)
theorem faL_symm (f g : Fo) (hi : Int) : ∀ ns, faL f g hi ns = faL g f hi ns
  | [] => rfl
  | n :: ns => by
    unfold faL
    by_cases h : min (f.reach n).2 hi = min (g.reach n).2 hi
    · rw [if_pos h, if_pos h.symm]
      exact faL_symm f g hi ns
    · rw [if_neg h, if_neg (fun z => h z.symm)]
      rw [Int.min_comm]
theorem fa_symm (f g : Fo) (lo hi : Int) : fa f g lo hi = fa g f lo hi := faL_symm f g hi _
theorem faL_none {f g : Fo} {hi : Int} : ∀ {ns : List Int}, faL f g hi ns = none ↔ ∀ n ∈ ns, min (f.reach n).2 hi = min (g.reach n).2 hi
  | [] => by simp [faL]
  | n :: ns => by
    unfold faL
    by_cases h : min (f.reach n).2 hi = min (g.reach n).2 hi
    · rw [if_pos h, faL_none]
      simp [h]
    · rw [if_neg h]
      simp [h]
/-- near among greater numbers: up to the reach -/
theorem nb_up {f : Fo} (h : f.ok) {x y : Int} (hy : x < y) : f.nb x y = decide (y ≤ (f.reach x).2) := by
  have := (near_iff f h x).1
  unfold Fo.nb
  rw [Bool.eq_iff_iff, decide_eq_true_iff, decide_eq_true_iff]
  omega
end DL
set_option Elab.async false
set_option linter.all false
set_option maxRecDepth 100000
set_option maxHeartbeats 1000000
namespace DL
open PySem L2
/-- drawn things, one for each turn -/
theorem lcDraw {t : TGT} {me : ME} {δ : Sl} {P : Int → List D → Prop} {γ : Type} {w : γ → D} {G : γ → Prop} {k N : Int} (hk : 0 ≤ k)
    (h : ∀ d, ∃ δ1, t d δ = some δ1 ∧ ∀ b c, P c b → c ≤ N → ∃ g b', P (c + k) b' ∧ G g ∧ me δ1 [.l b] = some (.dat (w g), [.l b'])) : ∀ (xs acc b : List D) (c : Int), P c b → c + k * xs.length ≤ N → acc.length + xs.length ≤ 100000 → ∃ (ys : List γ) (b' : List D), P (c + k * xs.length) b' ∧ ys.length = xs.length ∧ (∀ y ∈ ys, G y) ∧ lcLoop yes t mYes me δ xs acc [.l b] = some (acc ++ ys.map w, [.l b'])
  | [], acc, b, c, hb, hc, hl => ⟨[], b, by simpa using hb, rfl, by simp, by simp [lcLoop]⟩
  | x :: xs, acc, b, c, hb, hc, hl => by
    obtain ⟨δ1, h1, h2⟩ := h x
    have e0 : ((x :: xs).length : Int) = (xs.length : Int) + 1 := by simp
    have e1 : k * ((x :: xs).length : Int) = k * xs.length + k := by rw [e0, Int.mul_add, Int.mul_one]
    have p0 : 0 ≤ k * (xs.length : Int) := Int.mul_nonneg hk (Int.natCast_nonneg _)
    rw [e1] at hc
    obtain ⟨g, b1, h3, hg, h4⟩ := h2 b c hb (by omega)
    rw [List.length_cons] at hl
    obtain ⟨ys, b', h5, h7, h8, h6⟩ := lcDraw hk h xs (acc ++ [w g]) b1 (c + k) h3 (by omega) (by rw [List.length_append]; simp; omega)
    refine ⟨g :: ys, b', ?_, by simp [h7], ?_, ?_⟩
    · rw [e1, show c + (k * (xs.length : Int) + k) = c + k + k * xs.length by omega]
      exact h5
    · intro y hy
      rcases List.mem_cons.mp hy with rfl | hy
      · exact hg
      · exact h8 y hy
    · have hl2 : acc.length < 100000 := by omega
      simp only [lcLoop, yes, if_true, h1, mYes, h4, toD, hl2]
      rw [h6, List.append_assoc]
      rfl
theorem lcInts {t : TGT} {me : ME} {δ : Sl} {μ : Mu} {g : Int → D} (xs : List Int) (hl : xs.length ≤ 1000) (h : ∀ i ∈ xs, ∃ δ1, t (.int i) δ = some δ1 ∧ me δ1 μ = some (.dat (g i), μ)) : lcLoop yes t mYes me δ (xs.map D.int) [] μ = some (xs.map g, μ) := by
  have e := lc_map (t := t) (me := me) (δ := δ) (μ := μ) (g := fun d => match d with | .int i => g i | _ => .non) (xs.map D.int) (by rw [List.length_map]; omega) fun d hd => by
    obtain ⟨i, hi, rfl⟩ := List.mem_map.mp hd
    obtain ⟨δ1, h1, h2⟩ := h i hi
    exact ⟨δ1, h1, _, h2, rfl⟩
  rw [e, List.map_map]
  rfl
theorem cutI_nat {ms : List Int} {a b : Nat} (h : a ≤ b) (hb : b ≤ ms.length) : cutI ms (some (a : Int)) (some (b : Int)) = (ms.drop a).take (b - a) := by
  unfold cutI
  rw [HT.sIx_nat, HT.sIx_nat, Nat.min_eq_left hb, Nat.min_eq_left (show a ≤ ms.length by omega)]
theorem mem_cut {ms : List Int} {a b : Nat} {x : Int} (h : x ∈ (ms.drop a).take (b - a)) : ∃ i, a ≤ i ∧ i < b ∧ ms[i]? = some x := by
  obtain ⟨j, hj, e⟩ := List.mem_iff_getElem.mp h
  rw [List.length_take, List.length_drop] at hj
  refine ⟨a + j, by omega, by omega, ?_⟩
  rw [List.getElem_take, List.getElem_drop] at e
  rw [List.getElem?_eq_getElem (by omega), e]
theorem sorted_get {ms : List Int} (h : ms.Pairwise (· ≤ ·)) {i j : Nat} (hij : i ≤ j) (hj : j < ms.length) : ms[i]'(by omega) ≤ ms[j] := by
  by_cases e : i = j
  · subst e
    exact Int.le_refl _
  · exact List.pairwise_iff_getElem.mp h i j (by omega) hj (by omega)
end DL
set_option Elab.async false
set_option linter.all false
set_option maxRecDepth 100000
set_option maxHeartbeats 1000000

namespace DL
open PySem L2
def M_number_of_0 : MS := (mRet (mIf (mB (mCall (callX M_is_number) (mCons (mVar 0) mNil))) (mVar 0) (mAttr 1 1 (mVar 0))))
def M_number_of : MF := mDef 1 1
  M_number_of_0
def M_Reading_slack_0 : MS := (mRet (mIf (mB (mCall (callX M_is_number) (mCons (mAttr 1 0 (mVar 0)) mNil))) (mCall (callX M_Slack_by) (mCons (mAttr 1 0 (mVar 0)) mNil)) (mAttr 1 0 (mVar 0))))
def M_Reading_slack : MF := mDef 1 1
  M_Reading_slack_0
def M_Reading_is_same_0 (rc : MF) : MS := (mRet (mMeth 0 (callX (M_Slack_is_near rc)) (mProp 1 (callX M_Reading_slack) (mVar 0)) (mCons (mAttr 1 1 (mVar 0)) (mCons (mVar 1) mNil))))
def M_Reading_is_same_1 (rc : MF) : MS := (mIfS (mB (mCall (callX M_is_number) (mCons (mVar 1) mNil))) (M_Reading_is_same_0 rc) mNx)
def M_Reading_is_same_2 (rc : MF) : MS := (mRet (mOr (mMeth 0 (callX (M_Slack_is_near rc)) (mProp 1 (callX M_Reading_slack) (mVar 0)) (mCons (mAttr 1 1 (mVar 0)) (mCons (mAttr 1 1 (mVar 1)) mNil))) (mMeth 0 (callX (M_Slack_is_near rc)) (mProp 1 (callX M_Reading_slack) (mVar 1)) (mCons (mAttr 1 1 (mVar 0)) (mCons (mAttr 1 1 (mVar 1)) mNil)))))
def M_Reading_is_same (rc : MF) : MF := mDef 2 2
  (mSeq (M_Reading_is_same_1 rc)
  (M_Reading_is_same_2 rc))
def M_Reading_le_0 (rc : MF) : MS := (mRet (mOr (mOp fLt (mAttr 1 1 (mVar 0)) (mCall (callX M_number_of) (mCons (mVar 1) mNil))) (mMeth 1 (callX (M_Reading_is_same rc)) (mVar 0) (mCons (mVar 1) mNil))))
def M_Reading_le (rc : MF) : MF := mDef 2 2
  (M_Reading_le_0 rc)
def M_Reading_ge_0 (rc : MF) : MS := (mRet (mOr (mOp fGtI (mAttr 1 1 (mVar 0)) (mCall (callX M_number_of) (mCons (mVar 1) mNil))) (mMeth 1 (callX (M_Reading_is_same rc)) (mVar 0) (mCons (mVar 1) mNil))))
def M_Reading_ge (rc : MF) : MF := mDef 2 2
  (M_Reading_ge_0 rc)
def M_Reading_init : MIn := mInit 3 3 (mbSeq (mbSet 1 (mVar 1)) (mbSet 0 (mVar 2)))
def M_Reading_is_known_0 : MS := (mRet (mOr (mIsiO 2 1 (mVar 1)) (mCall (callX M_is_number) (mCons (mVar 1) mNil))))
def M_Reading_is_known : MF := mDef 2 2
  M_Reading_is_known_0
def M_Reading_eq_0 (rc : MF) : MS := (mRet (mAnd (mMeth 1 (callX M_Reading_is_known) (mVar 0) (mCons (mVar 1) mNil)) (mMeth 1 (callX (M_Reading_is_same rc)) (mVar 0) (mCons (mVar 1) mNil))))
def M_Reading_eq (rc : MF) : MF := mDef 2 2
  (M_Reading_eq_0 rc)
def M_Reading_gt_0 (rc : MF) : MS := (mRet (mAnd (mOp fGtI (mAttr 1 1 (mVar 0)) (mCall (callX M_number_of) (mCons (mVar 1) mNil))) (mNot (mMeth 1 (callX (M_Reading_is_same rc)) (mVar 0) (mCons (mVar 1) mNil)))))
def M_Reading_gt (rc : MF) : MF := mDef 2 2
  (M_Reading_gt_0 rc)
def M_Reading_lt_0 (rc : MF) : MS := (mRet (mAnd (mOp fLt (mAttr 1 1 (mVar 0)) (mCall (callX M_number_of) (mCons (mVar 1) mNil))) (mNot (mMeth 1 (callX (M_Reading_is_same rc)) (mVar 0) (mCons (mVar 1) mNil)))))
def M_Reading_lt (rc : MF) : MF := mDef 2 2
  (M_Reading_lt_0 rc)
def M_Reading_ne_0 (rc : MF) : MS := (mRet (mOr (mNot (mMeth 1 (callX M_Reading_is_known) (mVar 0) (mCons (mVar 1) mNil))) (mNot (mMeth 1 (callX (M_Reading_is_same rc)) (mVar 0) (mCons (mVar 1) mNil)))))
def M_Reading_ne (rc : MF) : MF := mDef 2 2
  (M_Reading_ne_0 rc)
abbrev rdD (v : Int) (d : D) : D := .ins 1 [d, .int v]
theorem is_num_any {c : Nat} {xs : List D} : M_is_number [.dat (.ins c xs)] [] = some (.dat (.bl false), []) := by
  simp [M_is_number, M_is_number_0]
theorem rd_init {v : Int} {d : D} : M_Reading_init [.dat (.int v), .dat d] [] = some ([d, .int v], []) := rfl
section
variable {rc : MF} {n : Nat} {f g : Fo} {d d' : D} {v y : Int}
theorem num_int : M_number_of [.dat (.int y)] [] = some (.dat (.int y), []) := by
  simp [M_number_of, M_number_of_0, is_num_int]
theorem num_rd : M_number_of [.dat (rdD v d)] [] = some (.dat (.int v), []) := by
  simp [M_number_of, M_number_of_0, is_num_any]
theorem rd_slack (h : Giv f d) : M_Reading_slack [.dat (rdD v d)] [] = some (.dat f.toS, []) := by
  rcases h with rfl | ⟨a, rfl, rfl⟩
  · obtain ⟨xs, ex⟩ := toS_ins f
    rw [ex]
    simp [M_Reading_slack, M_Reading_slack_0, is_num_any]
  · simp [M_Reading_slack, M_Reading_slack_0, is_num_int, by_ok]
theorem rd_sameN (h : RcOk n rc) (hf : f.fine n) (hd : Giv f d) : M_Reading_is_same rc [.dat (rdD v d), .dat (.int y)] [] = some (.dat (.bl (f.nb v y)), []) := by
  have e1 := rd_slack (v := v) hd
  have e2 := isnear_ok h hf v y
  obtain ⟨xs, ex⟩ := toS_ins f
  rw [ex] at e1 e2
  simp [M_Reading_is_same, M_Reading_is_same_1, M_Reading_is_same_0, is_num_int, e1, e2]
theorem rd_sameR (h : RcOk n rc) (hf : f.fine n) (hd : Giv f d) (hg : g.fine n) (hd' : Giv g d') : M_Reading_is_same rc [.dat (rdD v d), .dat (rdD y d')] [] = some (.dat (.bl (f.nb v y || g.nb v y)), []) := by
  have e1 := rd_slack (v := v) hd
  have e2 := isnear_ok h hf v y
  have e3 := rd_slack (v := y) hd'
  have e4 := isnear_ok h hg v y
  obtain ⟨xs, ex⟩ := toS_ins f
  obtain ⟨ys, ey⟩ := toS_ins g
  rw [ex] at e1 e2
  rw [ey] at e3 e4
  cases hb : f.nb v y <;> rw [hb] at e2 <;> simp [M_Reading_is_same, M_Reading_is_same_1, M_Reading_is_same_2, is_num_any, e1, e2, e3, e4]
theorem rd_knownN : M_Reading_is_known [.dat (rdD v d), .dat (.int y)] [] = some (.dat (.bl true), []) := by
  simp [M_Reading_is_known, M_Reading_is_known_0, is_num_int]
theorem rd_knownR : M_Reading_is_known [.dat (rdD v d), .dat (rdD y d')] [] = some (.dat (.bl true), []) := by
  simp [M_Reading_is_known, M_Reading_is_known_0]
/-- the six comparisons of a reading with something whose number is y, by whether they are the same -/
theorem rd_six {z : D} {s : Bool} (hk : M_Reading_is_known [.dat (rdD v d), .dat z] [] = some (.dat (.bl true), [])) (hs : M_Reading_is_same rc [.dat (rdD v d), .dat z] [] = some (.dat (.bl s), [])) (hn : M_number_of [.dat z] [] = some (.dat (.int y), [])) :
    M_Reading_eq rc [.dat (rdD v d), .dat z] [] = some (.dat (.bl s), []) ∧ M_Reading_ne rc [.dat (rdD v d), .dat z] [] = some (.dat (.bl (!s)), []) ∧
    M_Reading_lt rc [.dat (rdD v d), .dat z] [] = some (.dat (.bl (decide (v < y) && !s)), []) ∧ M_Reading_gt rc [.dat (rdD v d), .dat z] [] = some (.dat (.bl (decide (y < v) && !s)), []) ∧
    M_Reading_le rc [.dat (rdD v d), .dat z] [] = some (.dat (.bl (decide (v < y) || s)), []) ∧ M_Reading_ge rc [.dat (rdD v d), .dat z] [] = some (.dat (.bl (decide (y < v) || s)), []) := by
  refine ⟨?_, ?_, ?_, ?_, ?_, ?_⟩
  · simp [M_Reading_eq, M_Reading_eq_0, hk, hs]
  · simp [M_Reading_ne, M_Reading_ne_0, hk, hs]
  · by_cases h : v < y <;> simp [M_Reading_lt, M_Reading_lt_0, hn, hs, h]
  · by_cases h : y < v <;> simp [M_Reading_gt, M_Reading_gt_0, hn, hs, h]
  · by_cases h : v < y <;> simp [M_Reading_le, M_Reading_le_0, hn, hs, h]
  · by_cases h : y < v <;> simp [M_Reading_ge, M_Reading_ge_0, hn, hs, h]
end

theorem gor_cm {B : R → R → Mu → Option R} {G3 : G2} {F : MF} {c n : Nat} {xs : List D} {z r : D} {μ : Mu} (hb : B (.dat (.ins c xs)) (.dat z) μ = none) (hr : rhsOk n (.dat z) = true) (hF : F [.dat (.ins c xs), .dat z] [] = some (.dat r, [])) : gOr (gB B) (gOr (gCm c n (callX F)) G3) (.dat (.ins c xs)) (.dat z) μ = some (.dat r, μ) := by
  have e1 : gB B (.dat (.ins c xs)) (.dat z) μ = none := by
    unfold gB
    rw [hb]
  have e2 : gCm c n (callX F) (.dat (.ins c xs)) (.dat z) μ = some (.dat r, μ) := by
    dsimp only [gCm]
    rw [if_pos ⟨rfl, hr⟩]
    exact callX0 rfl hF
  unfold gOr
  rw [e1]
  dsimp only
  rw [e2]
theorem gor_ni {B : R → R → Mu → Option R} {G : MF} {F : MF} {c n : Nat} {ys : List D} {i : Int} {r : D} {μ : Mu} (hb : B (.dat (.int i)) (.dat (.ins c ys)) μ = none) (hF : F [.dat (.ins c ys), .dat (.int i)] [] = some (.dat r, [])) : gOr (gB B) (gOr (gCm c n (callX G)) (gNI c (callX F))) (.dat (.int i)) (.dat (.ins c ys)) μ = some (.dat r, μ) := by
  have e1 : gB B (.dat (.int i)) (.dat (.ins c ys)) μ = none := by
    unfold gB
    rw [hb]
  have e3 : gNI c (callX F) (.dat (.int i)) (.dat (.ins c ys)) μ = some (.dat r, μ) := by
    dsimp only [gNI]
    rw [if_pos rfl]
    exact callX0 rfl hF
  unfold gOr
  rw [e1]
  dsimp only [gCm]
  rw [e3]
theorem opG_eq {g : G2} {ma mb : ME} {δ : Sl} {μ μ1 μ2 : Mu} {x y : R} {z : R × Mu} (h1 : ma δ μ = some (x, μ1)) (h2 : mb δ μ1 = some (y, μ2)) (h3 : g x y μ2 = some z) : mOpG g ma mb δ μ = some z := by
  unfold mOpG
  rw [h1]
  dsimp only
  rw [h2]
  exact h3
theorem lst_eq {ms : MA} {δ : Sl} {μ μ1 : Mu} {rs : List R} {ds : List D} (h : ms δ μ = some (rs, μ1)) (h2 : allD rs = some ds) (h3 : ds.length ≤ 100000) : mLst ms δ μ = some (.fr ds, μ1) := by
  unfold mLst
  rw [h]
  dsimp only
  rw [h2]
  dsimp only
  rw [if_pos h3]
theorem def_fr {n N : Nat} {body : MS} {rs : List R} {μ μ' : Mu} {xs : List D} (hl : rs.length = n) (h : body (rs ++ List.replicate (N - n) .no) μ = some (.rt (.fr xs) μ')) (hlow : lowM μ.length μ' = true := by first | rfl | simp) : mDef n N body rs μ = some (.fr xs, μ'.take μ.length) := by
  unfold mDef
  rw [if_pos hl, h]
  dsimp only [retR]
  rw [hlow]
theorem prop_eq {c : Nat} {f : MF} {m : ME} {δ : Sl} {μ μ1 : Mu} {xs : List D} {z : R × Mu} (h : m δ μ = some (.dat (.ins c xs), μ1)) (h2 : f [.dat (.ins c xs)] μ1 = some z) : mProp c f m δ μ = some z := by
  unfold mProp
  rw [h]
  dsimp only
  rw [if_pos rfl]
  exact h2
theorem meth_eq {c : Nat} {f : MF} {m : ME} {ms : MA} {δ : Sl} {μ μ1 μ2 : Mu} {xs : List D} {rs : List R} {z : R × Mu} (h : m δ μ = some (.dat (.ins c xs), μ1)) (h1 : ms δ μ1 = some (rs, μ2)) (h2 : f (.dat (.ins c xs) :: rs) μ2 = some z) : mMeth c f m ms δ μ = some z := by
  unfold mMeth
  rw [h]
  dsimp only
  rw [if_pos rfl, h1]
  exact h2
end DL
set_option Elab.async false
set_option linter.all false
set_option maxRecDepth 100000
set_option maxHeartbeats 1000000

namespace DL
open PySem L2
theorem mop_eq {f : R → R → Mu → Option R} {ma mb : ME} {δ : Sl} {μ μ1 μ2 : Mu} {x y z : R} (h1 : ma δ μ = some (x, μ1)) (h2 : mb δ μ1 = some (y, μ2)) (h3 : f x y μ2 = some z) : mOp f ma mb δ μ = some (z, μ2) := by
  unfold mOp
  rw [h1]
  dsimp only
  rw [h2]
  dsimp only
  rw [h3]
theorem and_eq {ma mb : MT} {δ : Sl} {μ μ1 : Mu} {z : Bool × Mu} (h1 : ma δ μ = some (true, μ1)) (h2 : mb δ μ1 = some z) : mtAnd ma mb δ μ = some z := by
  unfold mtAnd
  rw [h1]
  exact h2
theorem or_eq {ma mb : MT} {δ : Sl} {μ μ1 : Mu} {z : Bool × Mu} (h1 : ma δ μ = some (false, μ1)) (h2 : mb δ μ1 = some z) : mtOr ma mb δ μ = some z := by
  unfold mtOr
  rw [h1]
  exact h2
def Fo.less (f : Fo) (v w : Int) : Bool := decide (v < w) && !f.nb v w
def dn (p : Nat → Bool) : Nat → Nat
  | 0 => 0
  | n + 1 => if p n = true then dn p n else n + 1
theorem dn_le (p : Nat → Bool) : ∀ n, dn p n ≤ n
  | 0 => Nat.le_refl 0
  | n + 1 => by
    unfold dn
    split
    · have := dn_le p n
      omega
    · omega
theorem dn_at (p : Nat → Bool) : ∀ n, dn p n < n → p (dn p n) = true
  | 0, h => by omega
  | n + 1, h => by
    unfold dn at h ⊢
    split at h
    · rename_i e
      rw [if_pos e]
      by_cases h2 : dn p n < n
      · exact dn_at p n h2
      · have := dn_le p n
        rw [show dn p n = n by omega]
        exact e
    · omega
theorem dn_be (p : Nat → Bool) : ∀ n k, dn p n = k + 1 → p k = false
  | 0, k, h => by cases h
  | n + 1, k, h => by
    unfold dn at h
    split at h
    · exact dn_be p n k h
    · rename_i e
      rw [show k = n by omega]
      simpa using e
theorem wh_down {mt : MT} {mb : MS} {S : Nat → Sl} {μ : Mu} {p : Nat → Bool} {N : Nat} (h0 : mt (S 0) μ = some (false, μ)) (h1 : ∀ n, n < N → mt (S (n + 1)) μ = some (p n, μ)) (h2 : ∀ n, mb (S (n + 1)) μ = some (.nx (S n) μ)) : ∀ (n fuel : Nat), n ≤ N → n < fuel → wh mt mb fuel (S n) μ = some (.nx (S (dn p n)) μ)
  | 0, 0, _, h => by omega
  | 0, fuel + 1, _, _ => by
    unfold wh
    rw [h0]
    rfl
  | n + 1, 0, _, h => by omega
  | n + 1, fuel + 1, hn, h => by
    unfold wh dn
    rw [h1 n (by omega)]
    cases e : p n
    · rfl
    · dsimp only
      rw [h2 n]
      exact wh_down h0 h1 h2 n fuel (by omega) (by omega)
def calmB (f : Fo) : List Int → Bool
  | a :: b :: r => !f.less b a && calmB f (b :: r)
  | _ => true
section
variable {f : Fo}
theorem calm_tl {a : Int} {r : List Int} (h : calmB f (a :: r) = true) : calmB f r = true := by
  cases r with
  | nil => rfl
  | cons b r =>
    unfold calmB at h
    rw [Bool.and_eq_true] at h
    exact h.2
theorem calm_drop : ∀ (n : Nat) {ls : List Int}, calmB f ls = true → calmB f (ls.drop n) = true
  | 0, _, h => h
  | n + 1, [], h => h
  | n + 1, a :: r, h => calm_drop n (calm_tl h)
theorem calm_take : ∀ (n : Nat) (ls : List Int), calmB f ls = true → calmB f (ls.take n) = true
  | 0, _, _ => rfl
  | n + 1, [], _ => rfl
  | n + 1, [a], _ => by simp [calmB]
  | 1, a :: b :: r, _ => rfl
  | n + 2, a :: b :: r, h => by
    have e := calm_take (n + 1) (b :: r) (calm_tl h)
    unfold calmB at h
    rw [Bool.and_eq_true] at h
    show (!f.less b a && calmB f (b :: r.take n)) = true
    rw [Bool.and_eq_true]
    exact ⟨h.1, e⟩
theorem calm_join {v : Int} {bs : List Int} (h2 : calmB f (v :: bs) = true) : ∀ as : List Int, calmB f as = true → (∀ a, as.getLast? = some a → f.less v a = false) → calmB f (as ++ v :: bs) = true
  | [], _, _ => h2
  | [a], _, h => by
    show (!f.less v a && calmB f (v :: bs)) = true
    rw [h a rfl, h2]
    rfl
  | a :: b :: r, h1, h => by
    have e := calm_join h2 (b :: r) (calm_tl h1) fun x hx => h x (by rw [List.getLast?_cons_cons]; exact hx)
    unfold calmB at h1
    rw [Bool.and_eq_true] at h1
    show (!f.less b a && calmB f (b :: (r ++ v :: bs))) = true
    rw [Bool.and_eq_true]
    exact ⟨h1.1, e⟩
theorem calm_cons {v : Int} {bs : List Int} (h : calmB f bs = true) (h2 : ∀ b, bs.head? = some b → f.less b v = false) : calmB f (v :: bs) = true := by
  cases bs with
  | nil => rfl
  | cons b r =>
    show (!f.less b v && calmB f (b :: r)) = true
    rw [h2 b rfl, h]
    rfl
def posL (f : Fo) (ls : List Int) (v : Int) : Nat := dn (fun n => f.less v (ls.getD n 0)) ls.length
def putL (f : Fo) (ls : List Int) (v : Int) : List Int := ls.take (posL f ls v) ++ v :: ls.drop (posL f ls v)
theorem putL_len {ls : List Int} {v : Int} : (putL f ls v).length = ls.length + 1 := by
  unfold putL
  have := dn_le (fun n => f.less v (ls.getD n 0)) ls.length
  have : posL f ls v ≤ ls.length := this
  simp
  omega
theorem put_calm {ls : List Int} {v : Int} (h : calmB f ls = true) : calmB f (putL f ls v) = true := by
  have hl : posL f ls v ≤ ls.length := dn_le (fun n => f.less v (ls.getD n 0)) ls.length
  refine calm_join (calm_cons (calm_drop _ h) fun b hb => ?_) _ (calm_take _ _ h) fun a ha => ?_
  · rw [List.head?_drop] at hb
    obtain ⟨hlt, e⟩ := List.getElem?_eq_some_iff.mp hb
    have q : f.less v (ls.getD (posL f ls v) 0) = true := dn_at (fun n => f.less v (ls.getD n 0)) ls.length hlt
    rw [List.getD_eq_getElem?_getD, hb] at q
    unfold Fo.less at q ⊢
    rw [Bool.and_eq_true, decide_eq_true_iff] at q
    have q1 : v < b := q.1
    rw [decide_eq_false (by omega)]
    rfl
  · cases hp : posL f ls v with
    | zero =>
      rw [hp] at ha
      cases ha
    | succ k =>
      have q : f.less v (ls.getD k 0) = false := dn_be (fun n => f.less v (ls.getD n 0)) ls.length k hp
      rw [hp] at ha hl
      rw [List.getLast?_take, if_neg (by omega), Nat.add_sub_cancel, List.getElem?_eq_getElem (by omega)] at ha
      rw [List.getD_eq_getElem?_getD, List.getElem?_eq_getElem (by omega)] at q
      cases ha
      exact q
theorem calm_zip : ∀ ls : List Int, (!(ls.zip (ls.drop 1)).any fun p => f.less p.2 p.1) = calmB f ls
  | [] => rfl
  | [a] => rfl
  | a :: b :: r => by
    have e := calm_zip (b :: r)
    show (!(f.less b a || ((b :: r).zip r).any fun p => f.less p.2 p.1)) = (!f.less b a && calmB f (b :: r))
    rw [← e, Bool.not_or]
    rfl
end
theorem pairs_map {α β : Type} {g : α → D} {h : β → D} : ∀ (xs : List α) (ys : List β), pairsD (xs.map g) (ys.map h) = (xs.zip ys).map fun p => .tup [g p.1, h p.2]
  | [], _ => by cases ‹List β› <;> rfl
  | _ :: _, [] => rfl
  | x :: xs, y :: ys => by
    show D.tup [g x, h y] :: pairsD (xs.map g) (ys.map h) = _
    rw [pairs_map xs ys]
    rfl
theorem cutD_to {xs : List D} {n : Nat} (h : n ≤ xs.length) : cutD xs none (some (n : Int)) = xs.take n := by
  unfold cutD
  rw [HT.sIx_nat, HT.sIx_none, Nat.min_eq_left h]
  simp
theorem cutD_from {xs : List D} {n : Nat} (h : n ≤ xs.length) : cutD xs (some (n : Int)) none = xs.drop n := by
  unfold cutD
  rw [HT.sIx_nat, HT.sIx_none, Nat.min_eq_left h]
  apply List.take_of_length_le
  simp
end DL
set_option Elab.async false
set_option linter.all false
set_option maxRecDepth 100000
set_option maxHeartbeats 1000000

namespace DL
open PySem L2
abbrev sqD (k : Bool) (xs : List D) : D := if k = true then .tup xs else .lst xs
theorem dn_all (p : Nat → Bool) : ∀ n k, dn p n ≤ k → k < n → p k = true
  | 0, k, _, h => by omega
  | n + 1, k, h1, h2 => by
    unfold dn at h1
    split at h1
    · rename_i e
      by_cases hk : k = n
      · rw [hk]
        exact e
      · exact dn_all p n k h1 (by omega)
    · omega
def asc4 (s2 : MS) : MS := wh M_ascending_c3 s2 1000
def ascb6 (s2 : MS) : MS := mSeq M_ascending_1 (mSeq (asc4 s2) M_ascending_5)
def asc7 (s2 : MS) : MS := mFor (mIt (mVar 0)) (tgName 2) (ascb6 s2)
def ascF (s2 : MS) : MF := mDef 1 4 (mSeq M_ascending_0 (mSeq (asc7 s2) M_ascending_8))
def asc2 : MS := (mAug 3 (fun x y => x - y) (mC (.int 1)))
def StepD (s2 : MS) : Prop := ∀ (x0 x1 x2 : R) (n : Nat) (μ : Mu), s2 [x0, x1, x2, .dat (.int ((n + 1 : Nat) : Int))] μ = some (.nx [x0, x1, x2, .dat (.int (n : Int))] μ)
theorem stepA : StepD asc2 := fun x0 x1 x2 n μ => by
  show some (Flo.nx [x0, x1, x2, .dat (.int (((n + 1 : Nat) : Int) - 1))] μ) = _
  rw [show ((n + 1 : Nat) : Int) - 1 = (n : Int) by omega]
theorem stepM : StepD M_ascending_2 := fun x0 x1 x2 n μ => by
  show some (Flo.nx [x0, x1, x2, .dat (.int (((n + 1 : Nat) : Int) - 1))] μ) = _
  rw [show ((n + 1 : Nat) : Int) - 1 = (n : Int) by omega]
theorem ascM : M_ascending = ascF M_ascending_2 := rfl
theorem def_cel {n N k : Nat} {body : MS} {rs : List R} {μ μ' : Mu} {xs : List D} (hl : rs.length = n) (h : body (rs ++ List.replicate (N - n) .no) μ = some (.rt (.cel k) μ')) (hk : ¬ k < μ.length) (hx : μ'[k]? = some (.l xs)) (hlow : lowM μ.length μ' = true := by first | rfl | simp) : mDef n N body rs μ = some (.fr xs, μ'.take μ.length) := by
  unfold mDef
  rw [if_pos hl, h]
  dsimp only [retR]
  rw [hlow]
  dsimp only
  rw [if_neg hk, hx]
section
variable {s2 : MS} {x0 : R}
theorem ascB {row : Int} {found : List Int} {x3 : R} (hs : StepD s2) (hl : found.length < 900) (hp : found.Pairwise (· ≤ ·)) : ∃ (found' : List Int) (x3' : R), found'.Perm (found ++ [row]) ∧ found'.Pairwise (· ≤ ·) ∧
    ascb6 s2 [x0, .cel 0, .dat (.int row), x3] [.l (found.map D.int)] = some (.nx [x0, .cel 0, .dat (.int row), x3'] [.l (found'.map D.int)]) := by
  have q1 : M_ascending_1 [x0, .cel 0, .dat (.int row), x3] [.l (found.map D.int)] = some (.nx [x0, .cel 0, .dat (.int row), .dat (.int (found.length : Nat))] [.l (found.map D.int)]) := by simp [M_ascending_1]
  have q4 : asc4 s2 [x0, .cel 0, .dat (.int row), .dat (.int (found.length : Nat))] [.l (found.map D.int)] = some (.nx [x0, .cel 0, .dat (.int row), .dat (.int (dn (fun n => decide (row < found.getD n 0)) found.length : Nat))] [.l (found.map D.int)]) := by
    refine wh_down (mt := M_ascending_c3) (mb := s2) (S := fun n => [x0, .cel 0, .dat (.int row), .dat (.int (n : Nat))]) (p := fun n => decide (row < found.getD n 0)) (N := found.length) ?_ (fun n hn => ?_) (fun n => hs _ _ _ n _) found.length 1000 (Nat.le_refl _) (by omega)
    · rfl
    · have g : mB (mOp fGtI (mVar 3) (mC (.int 0))) [x0, .cel 0, .dat (.int row), .dat (.int ((n + 1 : Nat) : Int))] [.l (found.map D.int)] = some (decide ((0 : Int) < ((n + 1 : Nat) : Int)), [.l (found.map D.int)]) := rfl
      rw [decide_eq_true (by omega)] at g
      have ix : mOp fIx (mVar 1) (mOp fSub (mVar 3) (mC (.int 1))) [x0, .cel 0, .dat (.int row), .dat (.int ((n + 1 : Nat) : Int))] [.l (found.map D.int)] = some (.dat (.int found[n]), [.l (found.map D.int)]) := by
        refine mop_eq (x := .cel 0) (y := .dat (.int (((n + 1 : Nat) : Int) - 1))) rfl rfl ?_
        rw [show ((n + 1 : Nat) : Int) - 1 = (n : Int) by omega]
        show (match atI (found.map D.int) (n : Int) with | some d => some (R.dat d) | none => none) = _
        rw [atI_int hn]
      have z : found.getD n 0 = found[n] := by rw [List.getD_eq_getElem?_getD, List.getElem?_eq_getElem hn]; rfl
      rw [z]
      exact and_eq g (b_eq (mop_eq rfl ix rfl))
  have hpl := dn_le (fun n => decide (row < found.getD n 0)) found.length
  have hbe := dn_be (fun n => decide (row < found.getD n 0)) found.length
  have hal := dn_all (fun n => decide (row < found.getD n 0)) found.length
  generalize dn (fun n => decide (row < found.getD n 0)) found.length = p at q4 hpl hbe hal
  have gd : ∀ n (h : n < found.length), found.getD n 0 = found[n] := fun n h => by rw [List.getD_eq_getElem?_getD, List.getElem?_eq_getElem h]; rfl
  have hs' := ins_sorted (row := row) hp hpl (fun h0 h => by
    have := hbe (p - 1) (by omega)
    rw [gd _ h] at this
    simpa using this) (fun i h3 _ h5 => by
    have := hal i h3 h5
    rw [gd _ h5] at this
    simpa using this)
  have hpm : (found.take p ++ [row] ++ found.drop p).Perm (found ++ [row]) := by
    have := List.perm_append_comm (l₁ := [row]) (l₂ := found.drop p)
    have e : found ++ [row] = found.take p ++ (found.drop p ++ [row]) := by rw [← List.append_assoc, List.take_append_drop]
    rw [e, List.append_assoc]
    exact List.Perm.append_left _ this
  have q5 : M_ascending_5 [x0, .cel 0, .dat (.int row), .dat (.int (p : Int))] [.l (found.map D.int)] = some (.nx [x0, .cel 0, .dat (.int row), .dat (.int (p : Int))] [(found.take p ++ [row] ++ found.drop p).map D.int]) := by
    have l1 : found.length < 100000 := by omega
    have l2 : (p : Int) ≤ 100000 := by omega
    have l3 : (p : Int) ≤ 100000 ↔ p ≤ 100000 := by omega
    have l4 : p ≤ 100000 := by omega
    simp [M_ascending_5, l1, l2, l3, l4]
  exact ⟨_, _, hpm, hs', (seq_nx q1).trans ((seq_nx q4).trans q5)⟩
theorem ascL (hs : StepD s2) : ∀ (its found : List Int) (a b : R), its.length + found.length < 900 → found.Pairwise (· ≤ ·) → ∃ (found' : List Int) (a' b' : R), found'.Perm (found ++ its) ∧ found'.Pairwise (· ≤ ·) ∧
    loop yes (tgName 2) (ascb6 s2) (its.map D.int) [x0, .cel 0, a, b] [.l (found.map D.int)] = some (.nx [x0, .cel 0, a', b'] [.l (found'.map D.int)])
  | [], found, a, b, _, hp => ⟨found, a, b, by simp, hp, rfl⟩
  | row :: its, found, a, b, hl, hp => by
    rw [List.length_cons] at hl
    obtain ⟨f1, x3, h1, h2, h3⟩ := ascB (x0 := x0) (row := row) (x3 := b) hs (by omega) hp
    obtain ⟨f2, a', b', k1, k2, k3⟩ := ascL hs its f1 (.dat (.int row)) x3 (by rw [h1.length_eq]; simp; omega) h2
    refine ⟨f2, a', b', ?_, k2, (loop_cons rfl h3).trans k3⟩
    refine k1.trans ?_
    rw [show found ++ row :: its = (found ++ [row]) ++ its by simp]
    exact List.Perm.append_right _ h1
theorem asc_sort (hs : StepD s2) {k : Bool} {ns : List Int} (hl : ns.length < 900) : ascF s2 [.dat (sqD k (ns.map D.int))] [] = some (.fr ((isort ns).map D.int), []) := by
  obtain ⟨ms, a, b, h1, h2, h3⟩ := ascL (x0 := .dat (sqD k (ns.map D.int))) hs ns [] .no .no (by simp; omega) List.Pairwise.nil
  rw [List.nil_append] at h1
  have e := sorted_uniq (h1.trans (isort_perm ns).symm) h2 (isort_sorted ns)
  subst e
  have it : mIt (mVar 0) [.dat (sqD k (ns.map D.int)), .cel 0, .no, .no] [.l []] = some (ns.map D.int, yes, [.l []]) := by
    cases k
    · exact it_lst rfl
    · exact it_tup rfl
  have body : mSeq M_ascending_0 (mSeq (asc7 s2) M_ascending_8) [.dat (sqD k (ns.map D.int)), .no, .no, .no] [] = some (.rt (.cel 0) [(isort ns).map D.int]) := by
    refine (seq_nx (setC_eq (xs := []) (μ1 := []) rfl)).trans ((seq_nx (for_eq it h3)).trans rfl)
  exact def_cel (N := 4) (k := 0) rfl body (Nat.not_lt_zero 0) rfl
end
end DL
set_option Elab.async false
set_option linter.all false
set_option maxRecDepth 100000
set_option maxHeartbeats 1000000

namespace DL
namespace V2
open PySem L2
def M_plain_0 : MS := (mSet 1 (mCall (callX M_of) (mCons (mVar 0) (mCons (mLst (mCons (mC (.str "by")) (mCons (mC (.str "by")) (mCons (mC (.str "by")) (mCons (mC (.str "part")) (mCons (mC (.str "cells")) mNil)))))) mNil))))
def M_plain_1 : MS := (mRet (mTup (mCons (mC (.str "by")) (mCons (mCall (callX M_of) (mCons (mVar 0) (mCons (mLst (mCons (mC (.int 0)) (mCons (mC (.int 1)) (mCons (mC (.int 1)) (mCons (mC (.int 2)) (mCons (mC (.int 2)) (mCons (mC (.int 3)) (mCons (mC (.int 4)) (mCons (mC (.int 6)) mNil))))))))) mNil))) mNil))))
def M_plain_2 : MS := (mIfS (mB (mOp (fEq false) (mVar 1) (mC (.str "by")))) M_plain_1 mNx)
def M_plain_3 : MS := (mRet (mOp fAdd (mTup (mCons (mC (.str "part")) mNil)) (mCall (callX M_of) (mCons (mVar 0) (mCons (mLst (mCons (mTup (mCons (mC (.int 1)) (mCons (mC (.int 2)) mNil))) (mCons (mTup (mCons (mC (.int 1)) (mCons (mC (.int 3)) mNil))) (mCons (mTup (mCons (mC (.int 1)) (mCons (mC (.int 5)) mNil))) (mCons (mTup (mCons (mC (.int 1)) (mCons (mC (.int 10)) mNil))) (mCons (mTup (mCons (mC (.int 2)) (mCons (mC (.int 3)) mNil))) (mCons (mTup (mCons (mC (.int 0)) (mCons (mC (.int 1)) mNil))) mNil))))))) mNil)))))
def M_plain_4 : MS := (mIfS (mB (mOp (fEq false) (mVar 1) (mC (.str "part")))) M_plain_3 mNx)
def M_plain_5 : MS := (mRet (mTup (mCons (mC (.str "cells")) (mCons (mCall (callX M_of) (mCons (mVar 0) (mCons (mLst (mCons (mC (.int 1)) (mCons (mC (.int 2)) (mCons (mC (.int 3)) (mCons (mC (.int 5)) (mCons (mC (.int 8)) mNil)))))) mNil))) (mCons (mOp fSub (mCall (callX M_take) (mCons (mVar 0) (mCons (mC (.int 9)) mNil))) (mC (.int 4))) mNil)))))
def M_plain : MF := mDef 1 2
  (mSeq M_plain_0
  (mSeq M_plain_2
  (mSeq M_plain_4
  M_plain_5)))
def M_form_0 (r : MF) : MS := (mRet (mCall (callX M_plain) (mCons (mVar 0) mNil)))
def M_form_1 (r : MF) : MS := (mIfS (mtOr (mB (mOp (fEq false) (mVar 1) (mC (.int 0)))) (mB (mOp fGtI (mCall (callX M_take) (mCons (mVar 0) (mCons (mC (.int 3)) mNil))) (mC (.int 0))))) (M_form_0 r) mNx)
def M_form_2 (r : MF) : MS := (mSet 2 (mCall (callX M_of) (mCons (mVar 0) (mCons (mLst (mCons (mC (.str "|")) (mCons (mC (.str "&")) mNil))) mNil))))
def M_form_3 (r : MF) : MS := (mSet 3 (mCall (callX r) (mCons (mVar 0) (mCons (mOp fSub (mVar 1) (mC (.int 1))) mNil))))
def M_form_4 (r : MF) : MS := (mRet (mTup (mCons (mVar 2) (mCons (mVar 3) (mCons (mCall (callX r) (mCons (mVar 0) (mCons (mOp fSub (mVar 1) (mC (.int 1))) mNil))) mNil)))))
def M_form : Nat → MF
  | 0 => fun _ _ => none
  | j + 1 => mDef 2 4 (mSeq (M_form_1 (M_form j))
      (mSeq (M_form_2 (M_form j))
      (mSeq (M_form_3 (M_form j))
      (M_form_4 (M_form j)))))
def M_near_0 (r : MF) : MS := (mRet (mOp fLeI (mCb fAbs (mCons (mOp fSub (mVar 1) (mVar 2)) mNil)) (mOp fIx (mVar 0) (mC (.int 1)))))
def M_near_1 (r : MF) : MS := (mIfS (mB (mOp (fEq false) (mOp fIx (mVar 0) (mC (.int 0))) (mC (.str "by")))) (M_near_0 r) mNx)
def M_near_2 (r : MF) : MS := (mSet 3 (mOp fMul (mCb fAbs (mCons (mOp fSub (mVar 1) (mVar 2)) mNil)) (mOp fIx (mVar 0) (mC (.int 2)))))
def M_near_3 (r : MF) : MS := (mRet (mOr (mOp fLeI (mVar 3) (mOp fMul (mOp fIx (mVar 0) (mC (.int 1))) (mCb fAbs (mCons (mVar 1) mNil)))) (mOp fLeI (mVar 3) (mOp fMul (mOp fIx (mVar 0) (mC (.int 1))) (mCb fAbs (mCons (mVar 2) mNil))))))
def M_near_4 (r : MF) : MS := (mIfS (mB (mOp (fEq false) (mOp fIx (mVar 0) (mC (.int 0))) (mC (.str "part")))) (mSeq (M_near_2 r)
  (M_near_3 r)) mNx)
def M_near_5 (r : MF) : MS := (mSet 4 (mOp fDiv (mOp fSub (mVar 1) (mOp fIx (mVar 0) (mC (.int 2)))) (mOp fIx (mVar 0) (mC (.int 1)))))
def M_near_6 (r : MF) : MS := (mRet (mOp (fEq false) (mVar 4) (mOp fDiv (mOp fSub (mVar 2) (mOp fIx (mVar 0) (mC (.int 2)))) (mOp fIx (mVar 0) (mC (.int 1))))))
def M_near_7 (r : MF) : MS := (mIfS (mB (mOp (fEq false) (mOp fIx (mVar 0) (mC (.int 0))) (mC (.str "cells")))) (mSeq (M_near_5 r)
  (M_near_6 r)) mNx)
def M_near_8 (r : MF) : MS := (mSet 4 (mCall (callX r) (mCons (mOp fIx (mVar 0) (mC (.int 1))) (mCons (mVar 1) (mCons (mVar 2) mNil)))))
def M_near_9 (r : MF) : MS := (mSet 5 (mCall (callX r) (mCons (mOp fIx (mVar 0) (mC (.int 2))) (mCons (mVar 1) (mCons (mVar 2) mNil)))))
def M_near_10 (r : MF) : MS := (mRet (mIf (mB (mOp (fEq false) (mOp fIx (mVar 0) (mC (.int 0))) (mC (.str "|")))) (mOr (mVar 4) (mVar 5)) (mAnd (mVar 4) (mVar 5))))
def M_near : Nat → MF
  | 0 => fun _ _ => none
  | j + 1 => mDef 3 6 (mSeq (M_near_1 (M_near j))
      (mSeq (M_near_4 (M_near j))
      (mSeq (M_near_7 (M_near j))
      (mSeq (M_near_8 (M_near j))
      (mSeq (M_near_9 (M_near j))
      (M_near_10 (M_near j)))))))
theorem plain_ok {b : List D} {c : Int} (hb : Bx c b) (hc : c < 1000000000000) : ∃ (f : Fo) (b' : List D), f.fine 0 ∧ Bx (c + 3) b' ∧ M_plain [.cel 0] [.l b] = some (.dat f.toF, [.l b']) := by
  obtain ⟨kd, b1, hk, h1, e1⟩ := of_mem (xs := [.str "by", .str "by", .str "by", .str "part", .str "cells"]) hb (by omega) (by simp) (by simp) (fun d => d = .str "by" ∨ d = .str "part" ∨ d = .str "cells") (by simp)
  rcases hk with rfl | rfl | rfl
  · obtain ⟨d, b2, ⟨a, ha, hd⟩, h2, e2⟩ := of_mem (xs := [.int 0, .int 1, .int 1, .int 2, .int 2, .int 3, .int 4, .int 6]) h1 (by omega) (by simp) (by simp) (fun d => ∃ a : Int, 0 ≤ a ∧ d = .int a) (by simp)
    subst hd
    refine ⟨.by a, b2, ⟨ha, trivial, Nat.le_refl _⟩, h2.mono (by omega), ?_⟩
    simp [M_plain, M_plain_0, M_plain_1, M_plain_2, e1, e2, Fo.toF]
  · obtain ⟨d, b2, ⟨t, q, h0, h3, h4, hd⟩, h2, e2⟩ := of_mem (xs := [.tup [.int 1, .int 2], .tup [.int 1, .int 3], .tup [.int 1, .int 5], .tup [.int 1, .int 10], .tup [.int 2, .int 3], .tup [.int 0, .int 1]]) h1 (by omega) (by simp) (by simp) (fun d => ∃ t q : Int, 0 ≤ t ∧ t < q ∧ q < 100 ∧ d = .tup [.int t, .int q]) (by
      intro d hd
      simp at hd
      rcases hd with rfl | rfl | rfl | rfl | rfl | rfl <;> exact ⟨_, _, by decide, by decide, by decide, rfl⟩)
    subst hd
    refine ⟨.part t q, b2, ⟨⟨h0, h3⟩, show q < 1073741824 by omega, Nat.le_refl _⟩, h2.mono (by omega), ?_⟩
    simp [M_plain, M_plain_0, M_plain_1, M_plain_2, M_plain_3, M_plain_4, e1, e2, Fo.toF]
  · obtain ⟨d, b2, ⟨a, ha, ha2, hd⟩, h2, e2⟩ := of_mem (xs := [.int 1, .int 2, .int 3, .int 5, .int 8]) h1 (by omega) (by simp) (by simp) (fun d => ∃ a : Int, 0 < a ∧ a < 100 ∧ d = .int a) (by simp)
    subst hd
    obtain ⟨s, b3, s0, s1, h3, e3⟩ := take_ok h2 (by omega) (n := 9) (by omega) (by omega)
    refine ⟨.cells a (s - 4), b3, ⟨ha, show a < 1073741824 by omega, Nat.le_refl _⟩, h3.mono (by omega), ?_⟩
    simp [M_plain, M_plain_0, M_plain_1, M_plain_2, M_plain_3, M_plain_4, M_plain_5, e1, e2, e3, Fo.toF]
theorem form_ok : ∀ (n j : Nat) {b : List D} {c : Int}, n < j → Bx c b → c + drw n < 1000000000000 → ∃ (f : Fo) (b' : List D), f.fine n ∧ Bx (c + drw n) b' ∧ M_form j [.cel 0, .dat (.int n)] [.l b] = some (.dat f.toF, [.l b'])
  | n, 0, _, _, h, _, _ => absurd h (by omega)
  | 0, j + 1, b, c, h, hb, hc => by
    obtain ⟨f, b', h1, h2, h3⟩ := plain_ok hb (show c < 1000000000000 by have := drw_pos 0; omega)
    exact ⟨f, b', h1, h2, by simp [M_form, M_form_1, M_form_0, h3]⟩
  | n + 1, j + 1, b, c, h, hb, hc => by
    have dp := drw_pos n
    have hc : c + (2 + 2 * drw n + 3) < 1000000000000 := hc
    show ∃ (f : Fo) (b' : List D), f.fine (n + 1) ∧ Bx (c + (2 + 2 * drw n + 3)) b' ∧ _
    obtain ⟨r, b1, r0, r1, h1, e1⟩ := take_ok hb (by omega) (n := 3) (by omega) (by omega)
    have hn : ¬ ((n : Int) + 1 = 0) := by omega
    by_cases hr : 0 < r
    · obtain ⟨f, b2, h2, h3, h4⟩ := plain_ok h1 (by omega)
      exact ⟨f, b2, h2.mono (by omega), h3.mono (by omega), by simp [M_form, M_form_1, M_form_0, e1, hr, h4, hn]⟩
    · obtain ⟨d, b2, hd, h2, e2⟩ := of_mem (xs := [.str "|", .str "&"]) h1 (by omega) (by simp) (by simp) (fun d => d = .str "|" ∨ d = .str "&") (by simp)
      obtain ⟨f, b3, h3, h4, e3⟩ := form_ok n j (by omega) h2 (by omega)
      obtain ⟨g, b4, h5, h6, e4⟩ := form_ok n j (by omega) h4 (by omega)
      rcases hd with rfl | rfl
      · refine ⟨.any f g, b4, ⟨⟨h3.1, h5.1⟩, ⟨h3.2.1, h5.2.1⟩, ?_⟩, h6.mono (by omega), ?_⟩
        · show max f.deep g.deep + 1 ≤ n + 1
          have := h3.2.2; have := h5.2.2
          omega
        · simp [M_form, M_form_1, M_form_0, M_form_2, M_form_3, M_form_4, e1, e2, e3, e4, hr, hn, Fo.toF]
      · refine ⟨.both f g, b4, ⟨⟨h3.1, h5.1⟩, ⟨h3.2.1, h5.2.1⟩, ?_⟩, h6.mono (by omega), ?_⟩
        · show max f.deep g.deep + 1 ≤ n + 1
          have := h3.2.2; have := h5.2.2
          omega
        · simp [M_form, M_form_1, M_form_0, M_form_2, M_form_3, M_form_4, e1, e2, e3, e4, hr, hn, Fo.toF]
theorem lnear_by {r : MF} {a x y : Int} : mDef 3 6 (mSeq (M_near_1 r) (mSeq (M_near_4 r) (mSeq (M_near_7 r) (mSeq (M_near_8 r) (mSeq (M_near_9 r) (M_near_10 r)))))) [.dat (Fo.by a).toF, .dat (.int x), .dat (.int y)] [] = some (.dat (.bl (decide ((x - y).natAbs ≤ a))), []) := by
  simp [M_near_1, M_near_0, Fo.toF, atI, ixN, abs_nat]
theorem lnear_part0 {r : MF} {t b x y : Int} (c1 : ∀ z, cMul z b = true) (c2 : ∀ z, cMul t z = true) : mDef 3 6 (mSeq (M_near_1 r) (mSeq (M_near_4 r) (mSeq (M_near_7 r) (mSeq (M_near_8 r) (mSeq (M_near_9 r) (M_near_10 r)))))) [.dat (Fo.part t b).toF, .dat (.int x), .dat (.int y)] [] = some (.dat (.bl (decide ((if x - y < 0 then -(x - y) else x - y) * b ≤ t * (if x < 0 then -x else x)) || decide ((if x - y < 0 then -(x - y) else x - y) * b ≤ t * (if y < 0 then -y else y)))), []) := by
  by_cases h : (if x - y < 0 then -(x - y) else x - y) * b ≤ t * (if x < 0 then -x else x)
  · simp [M_near_1, M_near_2, M_near_3, M_near_4, Fo.toF, atI, ixN, c1, c2, h]
  · simp [M_near_1, M_near_2, M_near_3, M_near_4, Fo.toF, atI, ixN, c1, c2, h]
theorem lnear_part {r : MF} {t b x y : Int} (ht : 0 ≤ t) (c1 : ∀ z, cMul z b = true) (c2 : ∀ z, cMul t z = true) : mDef 3 6 (mSeq (M_near_1 r) (mSeq (M_near_4 r) (mSeq (M_near_7 r) (mSeq (M_near_8 r) (mSeq (M_near_9 r) (M_near_10 r)))))) [.dat (Fo.part t b).toF, .dat (.int x), .dat (.int y)] [] = some (.dat (.bl (decide (((x - y).natAbs : Int) * b ≤ t * max (x.natAbs : Int) (y.natAbs : Int)))), []) := by
  have e := lnear_part0 (r := r) (x := x) (y := y) c1 c2
  rw [abs_nat, abs_nat, abs_nat] at e
  rw [e]
  have q : (decide (((x - y).natAbs : Int) * b ≤ t * (x.natAbs : Int)) || decide (((x - y).natAbs : Int) * b ≤ t * (y.natAbs : Int))) = decide (((x - y).natAbs : Int) * b ≤ t * max (x.natAbs : Int) (y.natAbs : Int)) := by
    rw [Bool.eq_iff_iff, Bool.or_eq_true, decide_eq_true_iff, decide_eq_true_iff, decide_eq_true_iff]
    generalize ((x - y).natAbs : Int) * b = w
    generalize (x.natAbs : Int) = u
    generalize (y.natAbs : Int) = v
    by_cases h : u ≤ v
    · rw [Int.max_eq_right h]
      have := Int.mul_le_mul_of_nonneg_left h ht
      constructor
      · rintro (h1 | h1)
        · exact Int.le_trans h1 this
        · exact h1
      · exact Or.inr
    · rw [Int.max_eq_left (by omega)]
      have := Int.mul_le_mul_of_nonneg_left (show v ≤ u by omega) ht
      constructor
      · rintro (h1 | h1)
        · exact h1
        · exact Int.le_trans h1 this
      · exact Or.inl
  rw [q]
theorem lnear_cells {r : MF} {w s x y : Int} (ho : 0 < w) (hs : w < 1073741824) : mDef 3 6 (mSeq (M_near_1 r) (mSeq (M_near_4 r) (mSeq (M_near_7 r) (mSeq (M_near_8 r) (mSeq (M_near_9 r) (M_near_10 r)))))) [.dat (Fo.cells w s).toF, .dat (.int x), .dat (.int y)] [] = some (.dat (.bl (decide ((x - s) / w = (y - s) / w))), []) := by
  simp [M_near_1, M_near_4, M_near_5, M_near_6, M_near_7, Fo.toF, atI, ixN, ho, hs]
theorem lnear_any {r : MF} {f g : Fo} {x y : Int} {p q : Bool} (ex : r [.dat f.toF, .dat (.int x), .dat (.int y)] [] = some (.dat (.bl p), [])) (ey : r [.dat g.toF, .dat (.int x), .dat (.int y)] [] = some (.dat (.bl q), [])) : mDef 3 6 (mSeq (M_near_1 r) (mSeq (M_near_4 r) (mSeq (M_near_7 r) (mSeq (M_near_8 r) (mSeq (M_near_9 r) (M_near_10 r)))))) [.dat (Fo.any f g).toF, .dat (.int x), .dat (.int y)] [] = some (.dat (.bl (p || q)), []) := by
  cases p <;> simp [M_near_1, M_near_4, M_near_7, M_near_8, M_near_9, M_near_10, Fo.toF, atI, ixN, ex, ey]
theorem lnear_both {r : MF} {f g : Fo} {x y : Int} {p q : Bool} (ex : r [.dat f.toF, .dat (.int x), .dat (.int y)] [] = some (.dat (.bl p), [])) (ey : r [.dat g.toF, .dat (.int x), .dat (.int y)] [] = some (.dat (.bl q), [])) : mDef 3 6 (mSeq (M_near_1 r) (mSeq (M_near_4 r) (mSeq (M_near_7 r) (mSeq (M_near_8 r) (mSeq (M_near_9 r) (M_near_10 r)))))) [.dat (Fo.both f g).toF, .dat (.int x), .dat (.int y)] [] = some (.dat (.bl (p && q)), []) := by
  cases p <;> simp [M_near_1, M_near_4, M_near_7, M_near_8, M_near_9, M_near_10, Fo.toF, atI, ixN, ex, ey]
theorem lnear_ok (f : Fo) : ∀ (j : Nat), f.ok → f.small → f.deep < j → ∀ x y : Int, M_near j [.dat f.toF, .dat (.int x), .dat (.int y)] [] = some (.dat (.bl (f.nb x y)), []) := by
  induction f with
  | «by» a =>
    intro j ho hs h x y
    cases j with
    | zero => exact absurd h (by omega)
    | succ j => rw [nb_by ho]; exact lnear_by
  | part t b =>
    intro j ho hs h x y
    cases j with
    | zero => exact absurd h (by omega)
    | succ j =>
      rw [nb_part ho]
      have hs : b < 1073741824 := hs
      have ho1 : 0 ≤ t := ho.1
      have ho2 : t < b := ho.2
      exact lnear_part ho1 (fun z => cMul_r (by omega) (by omega)) (fun z => cMul_l (by omega) (by omega))
  | cells w s =>
    intro j ho hs h x y
    cases j with
    | zero => exact absurd h (by omega)
    | succ j => rw [nb_cells ho]; exact lnear_cells ho hs
  | any f g ihf ihg =>
    intro j ho hs h x y
    cases j with
    | zero => exact absurd h (by omega)
    | succ j =>
      have h : max f.deep g.deep + 1 < j + 1 := h
      rw [nb_any ho]
      exact lnear_any (ihf j ho.1 hs.1 (by omega) x y) (ihg j ho.2 hs.2 (by omega) x y)
  | both f g ihf ihg =>
    intro j ho hs h x y
    cases j with
    | zero => exact absurd h (by omega)
    | succ j =>
      have h : max f.deep g.deep + 1 < j + 1 := h
      rw [nb_both ho]
      exact lnear_both (ihf j ho.1 hs.1 (by omega) x y) (ihg j ho.2 hs.2 (by omega) x y)
end V2
end DL
set_option Elab.async false
set_option linter.all false
set_option maxRecDepth 100000
set_option maxHeartbeats 1000000
namespace DL
namespace V2
open PySem L2
def M_given_0 (sl : MF) : MS := (mRet (mIf (mB (mOp (fEq false) (mCall (callX M_take) (mCons (mVar 0) (mCons (mC (.int 2)) mNil))) (mC (.int 0)))) (mOp fIx (mVar 1) (mC (.int 1))) (mCallK (callX M_Slack_by) 0 1 [0] mNil (mCons (mOp fIx (mVar 1) (mC (.int 1))) mNil))))
def M_given_1 (sl : MF) : MS := (mIfS (mB (mOp (fEq false) (mOp fIx (mVar 1) (mC (.int 0))) (mC (.str "by")))) (M_given_0 sl) mNx)
def M_given_2 (sl : MF) : MS := (mRet (mCallK (callX M_Slack_cells) 0 2 [0, 1] mNil (mCons (mOp fIx (mVar 1) (mC (.int 1))) (mCons (mOp fIx (mVar 1) (mC (.int 2))) mNil))))
def M_given_3 (sl : MF) : MS := (mIfS (mtAnd (mB (mOp (fEq false) (mOp fIx (mVar 1) (mC (.int 0))) (mC (.str "cells")))) (mB (mOp (fEq false) (mCall (callX M_take) (mCons (mVar 0) (mCons (mC (.int 2)) mNil))) (mC (.int 0))))) (M_given_2 sl) mNx)
def M_given_4 (sl : MF) : MS := (mSet 2 (mCall (callX sl) (mCons (mOp fIx (mVar 1) (mC (.int 2))) mNil)))
def M_given_5 (sl : MF) : MS := (mRet (mIf (mB (mOp (fEq false) (mOp fIx (mVar 1) (mC (.int 0))) (mC (.str "|")))) (mOpG (gOr (gII 0 (callX M_Slack_or)) (gOr (gIN 0 (callX M_Slack_or)) (gNI 0 (callX M_Slack_ror)))) (mOp fIx (mOp fIx (mVar 1) (mC (.int 1))) (mC (.int 1))) (mVar 2)) (mOpG (gOr (gII 0 (callX M_Slack_and)) (gOr (gIN 0 (callX M_Slack_and)) (gNI 0 (callX M_Slack_rand)))) (mOp fIx (mOp fIx (mVar 1) (mC (.int 1))) (mC (.int 1))) (mVar 2))))
def M_given_6 (sl : MF) : MS := (mIfS (mtAnd (mB (mOp (fIn false) (mOp fIx (mVar 1) (mC (.int 0))) (mTup (mCons (mC (.str "|")) (mCons (mC (.str "&")) mNil))))) (mtAnd (mB (mOp (fEq false) (mOp fIx (mOp fIx (mVar 1) (mC (.int 1))) (mC (.int 0))) (mC (.str "by")))) (mB (mOp (fEq true) (mOp fIx (mOp fIx (mVar 1) (mC (.int 2))) (mC (.int 0))) (mC (.str "by")))))) (mSeq (M_given_4 sl)
  (M_given_5 sl)) mNx)
def M_given_7 (sl : MF) : MS := (mRet (mCall (callX sl) (mCons (mVar 1) mNil)))
def M_given (sl : MF) : MF := mDef 2 3
  (mSeq (M_given_1 sl)
  (mSeq (M_given_3 sl)
  (mSeq (M_given_6 sl)
  (M_given_7 sl))))
theorem given_fall {sl : MF} {n : Nat} {b : List D} {f : Fo} (hs : SlOk n sl) (hf : f.fine n) {x2 : R} : M_given_7 sl [.cel 0, .dat f.toF, x2] [.l b] = some (.rt (.dat f.toS) [.l b]) := by
  simp [M_given_7, hs f hf]
/-- whether a sign's parts are handed in as a number and a slack -/
theorem given_6 {sl : MF} {n : Nat} {b : List D} {f g : Fo} {k : Bool} (hs : SlOk n sl) (hf : (if k then Fo.any f g else Fo.both f g).fine n) :
    M_given_6 sl [.cel 0, .dat (if k then Fo.any f g else Fo.both f g).toF, .no] [.l b] = some (.nx [.cel 0, .dat (if k then Fo.any f g else Fo.both f g).toF, .no] [.l b]) ∨
    M_given_6 sl [.cel 0, .dat (if k then Fo.any f g else Fo.both f g).toF, .no] [.l b] = some (.rt (.dat (if k then Fo.any f g else Fo.both f g).toS) [.l b]) := by
  have hg : g.fine n := by
    cases k
    · exact (fine_l (.inr hf)).2
    · exact (fine_l (.inl hf)).2
  obtain ⟨fs, ef⟩ := toF_kd f
  obtain ⟨gs, eg⟩ := toF_kd g
  by_cases h1 : f.kd = Str.ofString "by"
  · by_cases h2 : g.kd = Str.ofString "by"
    · left
      cases k <;> simp [M_given_6, Fo.toF, ef, eg, h1, h2, atI, ixN, in_any, in_both, -fIn]
    · right
      obtain ⟨a, rfl⟩ := kd_by.mp h1
      have e1 := hs g hg
      have e2 := ror_ok a g
      have e3 := rand_ok a g
      obtain ⟨xs, ex⟩ := toS_ins g
      rw [ex] at e1 e2 e3
      rw [eg] at e1
      cases k <;> simp [M_given_6, M_given_4, M_given_5, Fo.toF, eg, h2, atI, ixN, in_any, in_both, e1, e2, e3, -fIn]
  · left
    cases k <;> simp [M_given_6, Fo.toF, ef, eg, h1, atI, ixN, in_any, in_both, -fIn]
theorem given_ok {sl : MF} {n : Nat} {b : List D} {c : Int} {f : Fo} (hs : SlOk n sl) (hf : f.fine n) (hb : Bx c b) (hc : c < 1000000000000) : ∃ (d : D) (b' : List D), Giv f d ∧ Bx (c + 1) b' ∧ M_given sl [.cel 0, .dat f.toF] [.l b] = some (.dat d, [.l b']) := by
  obtain ⟨r, b1, r0, r1, h1, e1⟩ := take_ok hb (by omega) (n := 2) (by omega) (by omega)
  have fall := given_fall (b := b) (x2 := .no) hs hf
  have fall1 := given_fall (b := b1) (x2 := .no) hs hf
  have hsign : ∀ (k : Bool) (x y : Fo), f = (if k then Fo.any x y else Fo.both x y) → ∃ (d : D) (b' : List D), Giv f d ∧ Bx (c + 1) b' ∧ M_given sl [.cel 0, .dat f.toF] [.l b] = some (.dat d, [.l b']) := by
    intro k x y e
    subst e
    refine ⟨_, b, .inl rfl, hb.mono (by omega), def_rt (N := 3) (μ' := [.l b]) rfl ?_⟩
    have s1 : M_given_1 sl [.cel 0, .dat (if k then Fo.any x y else Fo.both x y).toF, .no] [.l b] = some (.nx [.cel 0, .dat (if k then Fo.any x y else Fo.both x y).toF, .no] [.l b]) := by
      cases k <;> simp [M_given_1, Fo.toF, atI, ixN]
    have s3 : M_given_3 sl [.cel 0, .dat (if k then Fo.any x y else Fo.both x y).toF, .no] [.l b] = some (.nx [.cel 0, .dat (if k then Fo.any x y else Fo.both x y).toF, .no] [.l b]) := by
      cases k <;> simp [M_given_3, Fo.toF, atI, ixN]
    rcases given_6 (b := b) hs hf with h | h
    · exact (seq_nx s1).trans ((seq_nx s3).trans ((seq_nx h).trans fall))
    · exact (seq_nx s1).trans ((seq_nx s3).trans (seq_rt h))
  cases f with
  | «by» a =>
    by_cases hr : r = 0
    · subst hr
      refine ⟨.int a, b1, .inr ⟨a, rfl, rfl⟩, h1, ?_⟩
      simp [M_given, M_given_1, M_given_0, Fo.toF, atI, ixN, e1]
    · refine ⟨_, b1, .inl rfl, h1, ?_⟩
      simp [M_given, M_given_1, M_given_0, Fo.toF, atI, ixN, e1, hr, by_ok]
  | part t q =>
    refine ⟨_, b, .inl rfl, hb.mono (by omega), def_rt (N := 3) (μ' := [.l b]) rfl ?_⟩
    have s1 : M_given_1 sl [.cel 0, .dat (Fo.part t q).toF, .no] [.l b] = some (.nx [.cel 0, .dat (Fo.part t q).toF, .no] [.l b]) := by
      simp [M_given_1, Fo.toF, atI, ixN]
    have s3 : M_given_3 sl [.cel 0, .dat (Fo.part t q).toF, .no] [.l b] = some (.nx [.cel 0, .dat (Fo.part t q).toF, .no] [.l b]) := by
      simp [M_given_3, Fo.toF, atI, ixN]
    have s6 : M_given_6 sl [.cel 0, .dat (Fo.part t q).toF, .no] [.l b] = some (.nx [.cel 0, .dat (Fo.part t q).toF, .no] [.l b]) := by
      simp [M_given_6, Fo.toF, atI, ixN, in_part, -fIn]
    exact (seq_nx s1).trans ((seq_nx s3).trans ((seq_nx s6).trans fall))
  | cells w s =>
    have s1 : M_given_1 sl [.cel 0, .dat (Fo.cells w s).toF, .no] [.l b] = some (.nx [.cel 0, .dat (Fo.cells w s).toF, .no] [.l b]) := by
      simp [M_given_1, Fo.toF, atI, ixN]
    have s6 : M_given_6 sl [.cel 0, .dat (Fo.cells w s).toF, .no] [.l b1] = some (.nx [.cel 0, .dat (Fo.cells w s).toF, .no] [.l b1]) := by
      simp [M_given_6, Fo.toF, atI, ixN, in_cells, -fIn]
    refine ⟨_, b1, .inl rfl, h1, def_rt (N := 3) (μ' := [.l b1]) rfl ?_⟩
    by_cases hr : r = 0
    · subst hr
      have s3 : M_given_3 sl [.cel 0, .dat (Fo.cells w s).toF, .no] [.l b] = some (.rt (.dat (Fo.cells w s).toS) [.l b1]) := by
        simp [M_given_3, M_given_2, Fo.toF, atI, ixN, e1, cells_ok']
      exact (seq_nx s1).trans (seq_rt s3)
    · have s3 : M_given_3 sl [.cel 0, .dat (Fo.cells w s).toF, .no] [.l b] = some (.nx [.cel 0, .dat (Fo.cells w s).toF, .no] [.l b1]) := by
        simp [M_given_3, Fo.toF, atI, ixN, e1, hr]
      exact (seq_nx s1).trans ((seq_nx s3).trans ((seq_nx s6).trans fall1))
  | any x y => exact hsign true x y rfl
  | both x y => exact hsign false x y rfl
end V2
end DL
set_option Elab.async false
set_option linter.all false
set_option maxRecDepth 100000
set_option maxHeartbeats 1000000

namespace DL
open PySem L2
def M_values_0 : MS := (mPar false true 2 3 (mOp fSub (mCall (callX M_take) (mCons (mVar 0) (mCons (mC (.int 41)) mNil))) (mC (.int 20))) (mLst mNil))
def M_values_1 : MS := (mDrop (mBm fAppend (mVar 3) (mCons (mVar 2) mNil)))
def M_values_2 : MS := (mSet 2 (mOp fAdd (mVar 2) (mCall (callX M_of) (mCons (mVar 0) (mCons (mLst (mCons (mC (.int 0)) (mCons (mC (.int 1)) (mCons (mC (.int 1)) (mCons (mC (.int 2)) (mCons (mC (.int 2)) (mCons (mC (.int 3)) (mCons (mC (.int 4)) (mCons (mC (.int 7)) mNil))))))))) mNil)))))
def M_values_b3 : MS := (mSeq M_values_1
  M_values_2)
def M_values_4 : MS := (mFor (mItR1 (mCons (mCall (callX M_take) (mCons (mVar 0) (mCons (mOp fAdd (mVar 1) (mC (.int 1))) mNil))) mNil)) (tgName 4) M_values_b3)
def M_values_5 : MS := (mRet (mCb fTuple (mCons (mCall (callV [false, true, false] M_pick) (mCons (mVar 0) (mCons (mVar 3) (mCons (mCb fLen (mCons (mVar 3) mNil)) mNil)))) mNil)))
def M_values : MF := mDef 2 5
  (mSeq M_values_0
  (mSeq M_values_4
  M_values_5))
theorem vals_loop {most : Int} : ∀ (is : List D) (b : List D) (c v : Int) (xs : List Int) (x4 : R) (B : Int), Bx c b → c + is.length ≤ 1000000 → xs.length + is.length ≤ 1000 → -20 ≤ v → v ≤ B → (∀ x ∈ xs, -20 ≤ x ∧ x ≤ B) → ∃ (b' : List D) (v' : Int) (xs' : List Int) (x4' : R), Bx (c + is.length) b' ∧ xs'.length = xs.length + is.length ∧ (∀ x ∈ xs', -20 ≤ x ∧ x ≤ B + 7 * is.length) ∧ loop yes (tgName 4) M_values_b3 is [.cel 0, .dat (.int most), .dat (.int v), .cel 1, x4] [.l b, .l (xs.map D.int)] = some (.nx [.cel 0, .dat (.int most), .dat (.int v'), .cel 1, x4'] [.l b', .l (xs'.map D.int)])
  | [], b, c, v, xs, x4, B, hb, _, _, _, _, hx => ⟨b, v, xs, x4, by simpa using hb, by simp, by simpa using hx, rfl⟩
  | i :: is, b, c, v, xs, x4, B, hb, hc, hl, v0, v1, hx => by
    rw [List.length_cons] at hc hl
    obtain ⟨dd, b1, ⟨y, y0, y1, rfl⟩, h1, e1⟩ := of_mem (xs := [.int 0, .int 1, .int 1, .int 2, .int 2, .int 3, .int 4, .int 7]) hb (by omega) (by simp) (by simp) (fun d => ∃ v : Int, 0 ≤ v ∧ v ≤ 7 ∧ d = .int v) (by simp)
    have s1 : M_values_1 [.cel 0, .dat (.int most), .dat (.int v), .cel 1, .dat i] [.l b, .l (xs.map D.int)] = some (.nx [.cel 0, .dat (.int most), .dat (.int v), .cel 1, .dat i] [.l b, .l ((xs ++ [v]).map D.int)]) := by
      have : xs.length < 100000 := by omega
      simp [M_values_1, this]
    have s2 : M_values_2 [.cel 0, .dat (.int most), .dat (.int v), .cel 1, .dat i] [.l b, .l ((xs ++ [v]).map D.int)] = some (.nx [.cel 0, .dat (.int most), .dat (.int (v + y)), .cel 1, .dat i] [.l b1, .l ((xs ++ [v]).map D.int)]) := by
      simp [M_values_2, e1]
    obtain ⟨b', v', xs', x4', h2, h3, h5, h4⟩ := vals_loop is b1 (c + 1) (v + y) (xs ++ [v]) (.dat i) (B + 7) h1 (by omega) (by rw [List.length_append]; simp; omega) (by omega) (by omega) (fun x hx' => by
      rcases List.mem_append.mp hx' with h | h
      · have := hx x h
        omega
      · rw [List.mem_singleton.mp h]
        omega)
    refine ⟨b', v', xs', x4', ?_, ?_, fun x hx' => ?_, (loop_cons rfl ((seq_nx s1).trans s2)).trans h4⟩
    · rw [List.length_cons]
      exact h2.mono (by omega)
    · rw [h3]
      simp
      omega
    · have := h5 x hx'
      rw [List.length_cons]
      omega
theorem ints_of : ∀ ys : List D, (∀ y ∈ ys, ∃ i, y = D.int i) → ∃ ls : List Int, ys = ls.map D.int
  | [], _ => ⟨[], rfl⟩
  | y :: ys, h => by
    obtain ⟨i, rfl⟩ := h y List.mem_cons_self
    obtain ⟨ls, rfl⟩ := ints_of ys fun z hz => h z (List.mem_cons_of_mem _ hz)
    exact ⟨i :: ls, rfl⟩
theorem lf_ints : ∀ ls : List Int, lfrees (ls.map D.int) = true
  | [] => rfl
  | i :: ls => by
    show (lfree (.int i) && lfrees (ls.map D.int)) = true
    rw [lf_ints ls]
    rfl
theorem values_ok {b : List D} {c : Int} {most : Nat} (hm : most ≤ 60) (hb : Bx c b) (hc : c ≤ 200000) : ∃ (ls : List Int) (b' : List D), ls.length ≤ most ∧ (∀ x ∈ ls, -20 ≤ x ∧ x ≤ 20 + 7 * most) ∧ Bx (c + 2 + 2 * most) b' ∧ M_values [.cel 0, .dat (.int most)] [.l b] = some (.dat (.tup (ls.map D.int)), [.l b']) := by
  obtain ⟨p, b1, p0, p1, h1, e1⟩ := take_ok hb (by omega) (n := 41) (by omega) (by omega)
  obtain ⟨q, b2, q0, q1, h2, e2⟩ := take_ok h1 (by omega) (n := (most : Int) + 1) (by omega) (by omega)
  obtain ⟨b3, v', ms, x4', h3, hl, hv, e3⟩ := vals_loop (most := most) (rgD 0 q) b2 (c + 1 + 1) (p - 20) [] .no 20 h2 (by rw [rgD_len]; omega) (by rw [rgD_len]; simp; omega) (by omega) (by omega) (by simp)
  rw [rgD_len] at h3 hl hv
  have hl : ms.length ≤ most := by simp at hl; omega
  obtain ⟨ys, rest, b4, h4, hy, hp, e4⟩ := pick_ok (xs := ms.map D.int) (many := (ms.length : Int)) h3 (by omega) (by omega) (by simp; omega)
  obtain ⟨ls, rfl⟩ := ints_of ys fun y hy => by
    have := hp.subset (List.mem_append_left rest hy)
    obtain ⟨i, _, rfl⟩ := List.mem_map.mp this
    exact ⟨i, rfl⟩
  rw [List.length_map] at h4
  have hls : ls.length ≤ most := by simp at hy; omega
  have hin : ∀ x ∈ ls, -20 ≤ x ∧ x ≤ 20 + 7 * most := fun x hx => by
    have := hp.subset (List.mem_append_left rest (List.mem_map_of_mem hx))
    obtain ⟨i, hi, e⟩ := List.mem_map.mp this
    have e : i = x := by injection e
    subst e
    have := hv i hi
    omega
  refine ⟨ls, b4, hls, hin, h4.mono (by omega), def_rt (N := 5) (μ' := [.l b4, .l (ms.map D.int)]) rfl ?_⟩
  have s0 : M_values_0 [.cel 0, .dat (.int most), .no, .no, .no] [.l b] = some (.nx [.cel 0, .dat (.int most), .dat (.int (p - 20)), .cel 1, .no] [.l b1, .l []]) := by
    simp [M_values_0, e1]
  have it : mItR1 (mCons (mCall (callX M_take) (mCons (mVar 0) (mCons (mOp fAdd (mVar 1) (mC (.int 1))) mNil))) mNil) [.cel 0, .dat (.int most), .dat (.int (p - 20)), .cel 1, .no] [.l b1, .l []] = some (rgD 0 q, yes, [.l b2, .l []]) :=
    itR1_eq (by simp [e2]) (by omega) (by omega)
  have s4 : M_values_4 [.cel 0, .dat (.int most), .dat (.int (p - 20)), .cel 1, .no] [.l b1, .l []] = some (.nx [.cel 0, .dat (.int most), .dat (.int v'), .cel 1, x4'] [.l b3, .l (ms.map D.int)]) := for_eq it e3
  have lfb : lfrees b4 = true := by
    obtain ⟨x, y, z, rfl, _⟩ := h4
    rfl
  have cv : callV [false, true, false] M_pick [.cel 0, .cel 1, .dat (.int (ms.length : Int))] [.l b3, .l (ms.map D.int)] = some (.fr (ls.map D.int), [.l b4, .l (ms.map D.int)]) := by
    have a := lf_ints ls
    simp [callV, viewAt, e4, a, lfb]
  have s5 : M_values_5 [.cel 0, .dat (.int most), .dat (.int v'), .cel 1, x4'] [.l b3, .l (ms.map D.int)] = some (.rt (.dat (.tup (ls.map D.int))) [.l b4, .l (ms.map D.int)]) := by
    have ln : mCb fLen (mCons (mVar 3) mNil) [.cel 0, .dat (.int most), .dat (.int v'), .cel 1, x4'] [.l b3, .l (ms.map D.int)] = some (.dat (.int (ms.length : Int)), [.l b3, .l (ms.map D.int)]) := by
      simp
    exact ret_eq (cb_eq (consF (call_eq (consC rfl (consC rfl (consD ln rfl))) cv) rfl) rfl)
  exact (seq_nx s0).trans ((seq_nx s4).trans s5)
end DL
set_option Elab.async false
set_option linter.all false
set_option maxRecDepth 100000
set_option maxHeartbeats 1000000

namespace DL
open PySem L2
theorem lcWf {gd : Mu → Bool} {t : TGT} {mt : MT} {me : ME} {δ : Sl} {μ : Mu} {β : Type} {w g : β → D} {p : β → Bool} (hg : gd μ = true) : ∀ (xs : List β) (acc : List D), acc.length + xs.length ≤ 100000 →
    (∀ x ∈ xs, ∃ δ1, t (w x) δ = some δ1 ∧ mt δ1 μ = some (p x, μ) ∧ (p x = true → ∃ r, me δ1 μ = some (r, μ) ∧ toD r = some (g x))) → lcLoop gd t mt me δ (xs.map w) acc μ = some (acc ++ (xs.filter p).map g, μ)
  | [], acc, _, _ => by simp [lcLoop, hg]
  | x :: xs, acc, hl, h => by
    obtain ⟨δ1, h1, h2, h3⟩ := h x List.mem_cons_self
    rw [List.length_cons] at hl
    rw [List.map_cons]
    cases hp : p x with
    | false =>
      have e := lcWf hg (t := t) (mt := mt) (me := me) (δ := δ) (g := g) xs acc (by omega) fun y hy => h y (List.mem_cons_of_mem _ hy)
      rw [hp] at h2
      simp only [lcLoop, hg, if_true, h1, h2]
      rw [e, List.filter_cons_of_neg (by rw [hp]; exact Bool.noConfusion)]
    | true =>
      obtain ⟨r, h4, h5⟩ := h3 hp
      have e := lcWf hg (t := t) (mt := mt) (me := me) (δ := δ) (g := g) xs (acc ++ [g x]) (by rw [List.length_append]; simp; omega) fun y hy => h y (List.mem_cons_of_mem _ hy)
      rw [hp] at h2
      have hl2 : acc.length < 100000 := by omega
      simp only [lcLoop, hg, if_true, h1, h2, h4, h5, hl2]
      rw [e, List.filter_cons_of_pos hp, List.append_assoc]
      rfl
theorem lcW {gd : Mu → Bool} {t : TGT} {me : ME} {δ : Sl} {μ : Mu} {β : Type} {w g : β → D} (hg : gd μ = true) (xs : List β) (hl : xs.length ≤ 100000)
    (h : ∀ x ∈ xs, ∃ δ1, t (w x) δ = some δ1 ∧ ∃ r, me δ1 μ = some (r, μ) ∧ toD r = some (g x)) : lcLoop gd t mYes me δ (xs.map w) [] μ = some (xs.map g, μ) := by
  have := lcWf (t := t) (mt := mYes) (me := me) (δ := δ) (p := fun _ => true) (g := g) hg xs [] (by simpa using hl) fun x hx => by
    obtain ⟨δ1, h1, h2⟩ := h x hx
    exact ⟨δ1, h1, rfl, fun _ => h2⟩
  rw [this, List.nil_append, List.filter_eq_self.mpr (fun _ _ => rfl)]
theorem in_ints {i : Int} {ns : List Int} {neg k : Bool} {μ : Mu} : fIn neg (.dat (.int i)) (.dat (sqD k (ns.map D.int))) μ = some (.dat (.bl (xor neg (decide (i ∈ ns))))) := by
  have e1 : (ns.map D.int).all flat1 = true := by
    rw [List.all_map]
    exact List.all_eq_true.mpr fun _ _ => rfl
  have e2 : ((ns.map D.int).any fun y => eqF y (.int i)) = decide (i ∈ ns) := by
    rw [List.any_map, Bool.eq_iff_iff, List.any_eq_true, decide_eq_true_iff]
    constructor
    · rintro ⟨x, hx, h⟩
      have h : (x == i) = true := h
      rw [beq_iff_eq] at h
      rw [← h]
      exact hx
    · intro h
      exact ⟨i, h, by show (i == i) = true; exact beq_self_eq_true i⟩
  have sq : ∃ q : Sq, sqOf (.dat (sqD k (ns.map D.int))) μ = some q ∧ q.all = ns.map D.int := by
    cases k
    · exact ⟨.l (ns.map D.int), rfl, rfl⟩
    · exact ⟨.t (ns.map D.int), rfl, rfl⟩
  obtain ⟨q, h1, h2⟩ := sq
  unfold fIn
  dsimp only
  rw [h1]
  dsimp only
  rw [h2, e1, e2]
  cases neg <;> simp [flat1]
section
variable {k : Bool} {ns is : List Int} {f : Fo} {d : D} {μ : Mu}
theorem it_sq {δ : Sl} {i : Nat} (h : mVar i δ μ = some (.dat (sqD k (ns.map D.int)), μ)) : mIt (mVar i) δ μ = some (ns.map D.int, yes, μ) := by
  cases k
  · exact it_lst h
  · exact it_tup h
theorem cutD_1 (xs : List D) : cutD xs (some 1) none = xs.drop 1 := by
  cases xs with
  | nil => rfl
  | cons x xs => exact cutD_from (n := 1) (by simp)
theorem itZ {δ : Sl} {i : Nat} (h : mVar i δ μ = some (.dat (sqD k (is.map D.int)), μ)) : mItZ (mCons (mVar i) (mCons (mSl (mVar i) (mSo (mC (.int 1))) mNo) mNil)) δ μ = some ((is.zip (is.drop 1)).map fun p => .tup [.int p.1, .int p.2], yes, μ) := by
  have e : mItZ (mCons (mVar i) (mCons (mSl (mVar i) (mSo (mC (.int 1))) mNo) mNil)) δ μ = some (pairsD (is.map D.int) (cutD (is.map D.int) (some 1) none), yes, μ) := by
    unfold mItZ mCons mSl
    rw [h]
    dsimp only
    rw [h]
    cases k <;> rfl
  rw [e, cutD_1, ← List.map_drop, pairs_map]
theorem all_bl {β : Type} (l : List β) (p : β → Bool) : fAll [.dat (.lst (l.map fun x => .bl (p x)))] μ = some (.dat (.bl (l.all p))) := by
  unfold fAll
  dsimp only [lstOf]
  rw [blsOf_map' p]
  dsimp only
  rw [List.all_map]
  rfl
end
section
variable {ma mb mc m : ME} {ms mk : MA} {δ δ1 δ2 δ3 : Sl} {μ μ1 μ2 μ3 μ4 μ5 μ6 : Mu} {x y z : R} {d1 d2 d3 : D} {xs : List D} {i j l n : Nat} {ci cj cl' : Bool} {rs zs : List R} {f : Fo} {a b v : Int}
theorem sl_to {m mh : ME} {k : Nat} (h : m δ μ = some (.dat (.tup xs), μ)) (h2 : mh δ μ = some (.dat (.int (k : Int)), μ)) (hk : k ≤ xs.length) : mSl m mNo (mSo mh) δ μ = some (.dat (.tup (xs.take k)), μ) := by
  simp only [mSl, mNo, mSo, h, h2, sqOf, cutD_to hk]
theorem sl_from {m mh : ME} {k : Nat} (h : m δ μ = some (.dat (.tup xs), μ)) (h2 : mh δ μ = some (.dat (.int (k : Int)), μ)) (hk : k ≤ xs.length) : mSl m (mSo mh) mNo δ μ = some (.dat (.tup (xs.drop k)), μ) := by
  simp only [mSl, mNo, mSo, h, h2, sqOf, cutD_from hk]
theorem par_g (h1 : ma δ μ = some (x, μ1)) (h2 : mb δ μ1 = some (y, μ2)) (h3 : stR ci i x δ μ2 = some (δ1, μ3)) (h4 : stR cj j y δ1 μ3 = some (δ2, μ4)) : mPar ci cj i j ma mb δ μ = some (.nx δ2 μ4) := by
  unfold mPar
  rw [h1]
  dsimp only
  rw [h2]
  dsimp only
  rw [h3]
  dsimp only
  rw [h4]
theorem par3_g (h1 : ma δ μ = some (x, μ1)) (h2 : mb δ μ1 = some (y, μ2)) (h3 : mc δ μ2 = some (z, μ3)) (h4 : stR ci i x δ μ3 = some (δ1, μ4)) (h5 : stR cj j y δ1 μ4 = some (δ2, μ5)) (h6 : stR cl' l z δ2 μ5 = some (δ3, μ6)) : mPar3 ci cj cl' i j l ma mb mc δ μ = some (.nx δ3 μ6) := by
  unfold mPar3
  rw [h1]
  dsimp only
  rw [h2]
  dsimp only
  rw [h3]
  dsimp only
  rw [h4]
  dsimp only
  rw [h5]
  dsimp only
  rw [h6]
theorem tup_eq {ds : List D} (h : ms δ μ = some (rs, μ1)) (h2 : allD rs = some ds) (h3 : ds.length ≤ 100000) : mTup ms δ μ = some (.dat (.tup ds), μ1) := by
  unfold mTup
  rw [h]
  dsimp only
  rw [h2]
  dsimp only
  rw [if_pos h3]
theorem asg_g {t : TGT} {d : D} (h : m δ μ = some (x, μ1)) (h2 : toD x = some d) (h3 : t d δ = some δ1) : mAsg t m δ μ = some (.nx δ1 μ1) := by
  unfold mAsg
  rw [h]
  dsimp only
  rw [h2]
  dsimp only
  rw [h3]
theorem callK_eq {g : MF} {np nk : Nat} {is : List Nat} {w : R × Mu} (h : ms δ μ = some (rs, μ1)) (h2 : mk δ μ1 = some (zs, μ2)) (h3 : rs.length = np ∧ zs.length = nk) (h4 : g (pick is (rs ++ zs)) μ2 = some w) : mCallK g np nk is ms mk δ μ = some w := by
  unfold mCallK
  rw [h]
  dsimp only
  rw [h2]
  dsimp only
  rw [if_pos h3]
  exact h4
theorem drop_eq (h : m δ μ = some (x, μ1)) : mDrop m δ μ = some (.nx δ μ1) := by
  unfold mDrop
  rw [h]
theorem bm_eq {g : Nat → List R → Mu → Option (R × Mu)} {w : R × Mu} (h : m δ μ = some (.cel n, μ1)) (h2 : ms δ μ1 = some (rs, μ2)) (h3 : g n rs μ2 = some w) (hl : isLst μ1[n]? = true := by rfl) : mBm g m ms δ μ = some w := by
  unfold mBm
  rw [h]
  dsimp only
  rw [hl]
  dsimp only
  rw [h2]
  exact h3
theorem nearM {q w : Nat} (hw : q < w) (hf : f.fine q) (h : m δ μ = some (.dat f.toS, μ1)) (h1 : ms δ μ1 = some ([.dat (.int a), .dat (.int b)], μ2)) : mMeth 0 (callX (M_Slack_is_near (M_Slack_reach w))) m ms δ μ = some (.dat (.bl (f.nb a b)), μ2) := by
  have c := isnear_ok (rcOk q w hw) hf a b
  obtain ⟨xs, ex⟩ := toS_ins f
  rw [ex] at c h
  exact meth_eq h h1 (callX0 rfl c)
theorem ix_sq {k : Bool} {ns : List Int} {j : Nat} (h : ma δ μ = some (.dat (sqD k (ns.map D.int)), μ1)) (h1 : mb δ μ1 = some (.dat (.int (j : Int)), μ2)) (hj : j < ns.length) : mOp fIx ma mb δ μ = some (.dat (.int ns[j]), μ2) := by
  refine mop_eq h h1 ?_
  have e := atI_int hj
  unfold fIx
  cases k
  · show (match atI (ns.map D.int) (j : Int) with | some d => some (R.dat d) | none => none) = _
    rw [e]
  · show (match atI (ns.map D.int) (j : Int) with | some d => some (R.dat d) | none => none) = _
    rw [e]
theorem len_sqD {k : Bool} {ns : List Int} (h : m δ μ = some (.dat (sqD k (ns.map D.int)), μ1)) : mCb fLen (mCons m mNil) δ μ = some (.dat (.int (ns.length : Int)), μ1) := by
  have e : fLen [.dat (sqD k (ns.map D.int))] μ1 = some (.dat (.int ((ns.map D.int).length : Int))) := by cases k <;> rfl
  rw [List.length_map] at e
  exact cb_eq (consD h rfl) e
theorem fsorted {ns : List Int} : fSorted [.dat (.lst (ns.map D.int))] μ = some (.fr ((isort ns).map D.int)) := by
  unfold fSorted
  dsimp only [lstOf]
  rw [intsOf_ints]
end
theorem ok_lst {j : Nat} {xs : List D} (h : xs.length ≤ 1000) (h2 : ∀ x ∈ xs, okD j x = true) : okD (j + 1) (.lst xs) = true := by
  show (decide (xs.length ≤ 1000) && xs.all (okD j)) = true
  rw [Bool.and_eq_true, decide_eq_true_iff, List.all_eq_true]
  exact ⟨h, h2⟩
theorem ok_tup {j : Nat} {xs : List D} (h : xs.length ≤ 1000) (h2 : ∀ x ∈ xs, okD j x = true) : okD (j + 1) (.tup xs) = true := by
  show (decide (xs.length ≤ 1000) && xs.all (okD j)) = true
  rw [Bool.and_eq_true, decide_eq_true_iff, List.all_eq_true]
  exact ⟨h, h2⟩
theorem ok_two {j : Nat} {x y : D} (h1 : okD j x = true) (h2 : okD j y = true) : okD (j + 1) (.lst [x, y]) = true := ok_lst (by simp) fun z hz => by
  simp only [List.mem_cons, List.not_mem_nil, or_false] at hz
  rcases hz with rfl | rfl
  · exact h1
  · exact h2
theorem ok_tupI {j : Nat} {l : List Int} (h : l.length ≤ 1000) : okD (j + 2) (.tup (l.map D.int)) = true := ok_tup (by simpa using h) fun x hx => by
  obtain ⟨i, _, rfl⟩ := List.mem_map.mp hx
  rfl
theorem ok_lstI {j : Nat} {l : List Int} (h : l.length ≤ 1000) : okD (j + 2) (.lst (l.map D.int)) = true := ok_lst (by simpa using h) fun x hx => by
  obtain ⟨i, _, rfl⟩ := List.mem_map.mp hx
  rfl
theorem eq_ints {neg : Bool} {l l' : List Int} {μ : Mu} : fEq neg (.dat (.lst (l.map D.int))) (.dat (.lst (l'.map D.int))) μ = some (.dat (.bl (xor neg (decide (l = l'))))) := by
  have ok : ∀ l : List Int, okE 1 (.lst (l.map D.int)) = true := fun l => by
    show (l.map D.int).all (okE 0) = true
    rw [List.all_map]
    exact List.all_eq_true.mpr fun _ _ => rfl
  rw [feq_ok (n := 1) (by omega) neg (ok l) (ok l') μ]
  have e : beqD (.lst (l.map D.int)) (.lst (l'.map D.int)) = decide (l = l') := by
    rw [Bool.eq_iff_iff, beqD_iff, decide_eq_true_iff]
    constructor
    · intro h
      injection h with h
      exact (List.map_inj_right fun a b h => by injection h).mp h
    · intro h
      rw [h]
  rw [e]
theorem isort_len (l : List Int) : (isort l).length = l.length := (isort_perm l).length_eq
end DL
set_option Elab.async false
set_option linter.all false
set_option maxRecDepth 100000
set_option maxHeartbeats 1000000

namespace DL
open PySem L2
def wE (m : ME) (δ : Sl) (μ : Mu) (Q : R → Mu → Prop) : Prop := ∃ r μ', m δ μ = some (r, μ') ∧ Q r μ'
def wT (m : MT) (δ : Sl) (μ : Mu) (Q : Bool → Mu → Prop) : Prop := ∃ r μ', m δ μ = some (r, μ') ∧ Q r μ'
def wA (m : MA) (δ : Sl) (μ : Mu) (Q : List R → Mu → Prop) : Prop := ∃ r μ', m δ μ = some (r, μ') ∧ Q r μ'
def wF (m : MF) (rs : List R) (μ : Mu) (Q : R → Mu → Prop) : Prop := ∃ r μ', m rs μ = some (r, μ') ∧ Q r μ'
def wS (m : MS) (δ : Sl) (μ : Mu) (Q : Flo → Prop) : Prop := ∃ fl, m δ μ = some fl ∧ Q fl
def wI (m : MI) (δ : Sl) (μ : Mu) (Q : List D → (Mu → Bool) → Mu → Prop) : Prop := ∃ xs gd μ', m δ μ = some (xs, gd, μ') ∧ Q xs gd μ'
def wO (m : MO) (δ : Sl) (μ : Mu) (Q : Option Int → Mu → Prop) : Prop := ∃ o μ', m δ μ = some (o, μ') ∧ Q o μ'
def wL (gd : Mu → Bool) (t : TGT) (mb : MS) (xs : List D) (δ : Sl) (μ : Mu) (Q : Flo → Prop) : Prop := ∃ fl, loop gd t mb xs δ μ = some fl ∧ Q fl
def wLc (gd : Mu → Bool) (t : TGT) (mt : MT) (me : ME) (δ : Sl) (xs : List D) (μ : Mu) (Q : List D → Mu → Prop) : Prop := ∃ ys μ', lcLoop gd t mt me δ xs [] μ = some (ys, μ') ∧ Q ys μ'
def oK {β : Type} (o : Option β) (k : β → Prop) : Prop := ∃ z, o = some z ∧ k z
def cnd (b : Bool) (A B : Prop) : Prop := (b = true → A) ∧ (b = false → B)
def sqK (k : Sl → Mu → Prop) (Q : Flo → Prop) : Flo → Prop
  | .nx δ μ => k δ μ
  | fl => Q fl
section
variable {m ma mb mc mo : ME} {mt mu : MT} {ms mk : MA} {m1 m2 : MS} {δ δ1 : Sl} {μ μ1 μ2 : Mu} {Q : R → Mu → Prop} {QT : Bool → Mu → Prop} {QA : List R → Mu → Prop} {QS : Flo → Prop} {QI : List D → (Mu → Bool) → Mu → Prop} {QO : Option Int → Mu → Prop} {f : MF} {i j l : Nat} {d : D} {r : R} {rs : List R} {A B : Prop} {k : Bool}
theorem cnd_true (h : A) : cnd true A B := ⟨fun _ => h, fun z => by cases z⟩
theorem cnd_false (h : B) : cnd false A B := ⟨fun z => (by cases z), fun _ => h⟩
theorem cnd_pos (e : k = true) (h : A) : cnd k A B := ⟨fun _ => h, fun z => by rw [e] at z; cases z⟩
theorem cnd_neg (e : k = false) (h : B) : cnd k A B := ⟨fun z => (by rw [e] at z; cases z), fun _ => h⟩
theorem cnd_dec {p : Prop} [Decidable p] (h : p → A) (h2 : ¬ p → B) : cnd (decide p) A B := ⟨fun z => h (of_decide_eq_true z), fun z => h2 (of_decide_eq_false z)⟩
theorem cnd_yes {p : Prop} [Decidable p] (e : p) (h : A) : cnd (decide p) A B := cnd_pos (decide_eq_true e) h
theorem cnd_no {p : Prop} [Decidable p] (e : ¬ p) (h : B) : cnd (decide p) A B := cnd_neg (decide_eq_false e) h
theorem cnd_not (h : cnd k B A) : cnd (!k) A B := ⟨fun z => h.2 (by cases k <;> simp_all), fun z => h.1 (by cases k <;> simp_all)⟩
theorem oK_some {β : Type} {o : Option β} {K : β → Prop} {z : β} (h : o = some z) (h2 : K z) : oK o K := ⟨z, h, h2⟩

theorem wS_seq (h : wS m1 δ μ (sqK (fun δ' μ' => wS m2 δ' μ' QS) QS)) : wS (mSeq m1 m2) δ μ QS := by
  obtain ⟨fl, h1, h2⟩ := h
  cases fl with
  | nx δ' μ' =>
    obtain ⟨fl2, g1, g2⟩ := h2
    exact ⟨fl2, (seq_nx h1).trans g1, g2⟩
  | rt r μ' => exact ⟨_, by unfold mSeq; rw [h1], h2⟩
  | bk δ' μ' => exact ⟨_, by unfold mSeq; rw [h1], h2⟩
  | ct δ' μ' => exact ⟨_, by unfold mSeq; rw [h1], h2⟩
theorem sqK_nx {K : Sl → Mu → Prop} (h : K δ μ) : sqK K QS (.nx δ μ) := h
theorem sqK_rt {K : Sl → Mu → Prop} (h : QS (.rt r μ)) : sqK K QS (.rt r μ) := h
theorem sqK_bk {K : Sl → Mu → Prop} (h : QS (.bk δ μ)) : sqK K QS (.bk δ μ) := h
theorem sqK_ct {K : Sl → Mu → Prop} (h : QS (.ct δ μ)) : sqK K QS (.ct δ μ) := h
theorem wS_nx (h : QS (.nx δ μ)) : wS mNx δ μ QS := ⟨_, rfl, h⟩
theorem wS_bk (h : QS (.bk δ μ)) : wS mBk δ μ QS := ⟨_, rfl, h⟩
theorem wS_ct (h : QS (.ct δ μ)) : wS mCt δ μ QS := ⟨_, rfl, h⟩
theorem wS_ret (h : wE m δ μ fun r μ' => QS (.rt r μ')) : wS (mRet m) δ μ QS := by
  obtain ⟨r, μ', h1, h2⟩ := h
  exact ⟨_, ret_eq h1, h2⟩
theorem wS_drop (h : wE m δ μ fun _ μ' => QS (.nx δ μ')) : wS (mDrop m) δ μ QS := by
  obtain ⟨r, μ', h1, h2⟩ := h
  exact ⟨_, drop_eq h1, h2⟩
theorem wS_if (h : wT mt δ μ fun b μ' => cnd b (wS m1 δ μ' QS) (wS m2 δ μ' QS)) : wS (mIfS mt m1 m2) δ μ QS := by
  obtain ⟨b, μ', h1, h2⟩ := h
  cases b with
  | true =>
    obtain ⟨fl, g1, g2⟩ := h2.1 rfl
    exact ⟨fl, ifT_eq h1 g1, g2⟩
  | false =>
    obtain ⟨fl, g1, g2⟩ := h2.2 rfl
    exact ⟨fl, ifF_eq h1 g1, g2⟩
def stK (c : Bool) (i : Nat) (r : R) (δ : Sl) (μ : Mu) (K : Sl → Mu → Prop) : Prop := ∃ δ1 μ1, stR c i r δ μ = some (δ1, μ1) ∧ K δ1 μ1
theorem stK_dat {K : Sl → Mu → Prop} (h : K (δ.set i (.dat d)) μ) : stK false i (.dat d) δ μ K := ⟨_, _, rfl, h⟩
theorem stK_fr {K : Sl → Mu → Prop} {xs : List D} (h : K (δ.set i (.dat (.lst xs))) μ) : stK false i (.fr xs) δ μ K := ⟨_, _, rfl, h⟩
theorem stK_cel {K : Sl → Mu → Prop} {n : Nat} (h : K (δ.set i (.cel n)) μ) : stK false i (.cel n) δ μ K := ⟨_, _, rfl, h⟩
theorem stK_new {K : Sl → Mu → Prop} {xs : List D} (h : K (δ.set i (.cel μ.length)) (μ ++ [.l xs])) : stK true i (.fr xs) δ μ K := ⟨_, _, rfl, h⟩
theorem stK_newC {K : Sl → Mu → Prop} {c : Cel} (h : K (δ.set i (.cel μ.length)) (μ ++ [c])) : stK true i (.fc c) δ μ K := ⟨_, _, rfl, h⟩
theorem wS_set (h : wE m δ μ fun r μ' => stK false i r δ μ' fun δ1 μ1 => QS (.nx δ1 μ1)) : wS (mSet i m) δ μ QS := by
  obtain ⟨r, μ', h1, δ1, μ1, h2, h3⟩ := h
  refine ⟨_, ?_, h3⟩
  unfold mSet
  rw [h1]
  simp only [stR] at h2
  dsimp only
  cases e : putR i r δ with
  | none =>
    rw [e] at h2
    cases h2
  | some δ2 =>
    rw [e] at h2
    cases h2
    rfl
theorem wS_setC (h : wE m δ μ fun r μ' => stK true i r δ μ' fun δ1 μ1 => QS (.nx δ1 μ1)) : wS (mSetC i m) δ μ QS := by
  obtain ⟨r, μ', h1, δ1, μ1, h2, h3⟩ := h
  refine ⟨_, ?_, h3⟩
  unfold mSetC
  rw [h1]
  cases r with
  | fr xs => cases h2; rfl
  | fc c => cases h2; rfl
  | no => cases h2
  | dat d => cases h2
  | cel k => cases h2
theorem wS_par {ci cj : Bool} (h : wE ma δ μ fun x μ1 => wE mb δ μ1 fun y μ2 => stK ci i x δ μ2 fun δ1 μ3 => stK cj j y δ1 μ3 fun δ2 μ4 => QS (.nx δ2 μ4)) : wS (mPar ci cj i j ma mb) δ μ QS := by
  obtain ⟨x, μ1, h1, y, μ2, h2, δ1, μ3, h3, δ2, μ4, h4, h5⟩ := h
  exact ⟨_, par_g h1 h2 h3 h4, h5⟩
theorem wS_par3 {ci cj cl' : Bool} (h : wE ma δ μ fun x μ1 => wE mb δ μ1 fun y μ2 => wE mc δ μ2 fun z μ3 => stK ci i x δ μ3 fun δ1 μ4 => stK cj j y δ1 μ4 fun δ2 μ5 => stK cl' l z δ2 μ5 fun δ3 μ6 => QS (.nx δ3 μ6)) : wS (mPar3 ci cj cl' i j l ma mb mc) δ μ QS := by
  obtain ⟨x, μ1, h1, y, μ2, h2, z, μ3, h3, δ1, μ4, h4, δ2, μ5, h5, δ3, μ6, h6, h7⟩ := h
  exact ⟨_, par3_g h1 h2 h3 h4 h5 h6, h7⟩
def dK (r : R) (k : D → Prop) : Prop := ∃ d, toD r = some d ∧ k d
theorem dK_dat {K : D → Prop} (h : K d) : dK (.dat d) K := ⟨_, rfl, h⟩
theorem dK_fr {K : D → Prop} {xs : List D} (h : K (.lst xs)) : dK (.fr xs) K := ⟨_, rfl, h⟩
theorem wS_asg {t : TGT} (h : wE m δ μ fun r μ' => dK r fun d => oK (t d δ) fun δ1 => QS (.nx δ1 μ')) : wS (mAsg t m) δ μ QS := by
  obtain ⟨r, μ', h1, d, h2, δ1, h3, h4⟩ := h
  exact ⟨_, asg_g h1 h2 h3, h4⟩
theorem wS_aug {g : Int → Int → Int} {x : Int} (hx : δ[i]? = some (.dat (.int x))) (h : wE m δ μ fun r μ' => ∃ y, r = .dat (.int y) ∧ QS (.nx (δ.set i (.dat (.int (g x y)))) μ')) : wS (mAug i g m) δ μ QS := by
  obtain ⟨r, μ', h1, y, rfl, h4⟩ := h
  refine ⟨_, ?_, h4⟩
  unfold mAug
  rw [hx]
  dsimp only
  rw [h1]
theorem wS_for {mi : MI} {t : TGT} (h : wI mi δ μ fun xs gd μ' => wL gd t m1 xs δ μ' QS) : wS (mFor mi t m1) δ μ QS := by
  obtain ⟨xs, gd, μ', h1, fl, h2, h3⟩ := h
  exact ⟨fl, for_eq h1 h2, h3⟩

theorem wE_of {z : R × Mu} (h : m δ μ = some z) (q : Q z.1 z.2) : wE m δ μ Q := ⟨z.1, z.2, h, q⟩
theorem wT_of {b : Bool} (h : mt δ μ = some (b, μ1)) (q : QT b μ1) : wT mt δ μ QT := ⟨_, _, h, q⟩
def vK (δ : Sl) (i : Nat) (μ : Mu) (Q : R → Mu → Prop) : Prop := wE (mVar i) δ μ Q
theorem wE_var (h : vK δ i μ Q) : wE (mVar i) δ μ Q := h
theorem vK_dat (h : δ[i]? = some (.dat d)) (q : Q (.dat d) μ) : vK δ i μ Q := ⟨_, _, by unfold mVar; rw [h], q⟩
theorem vK_cel {n : Nat} (h : δ[i]? = some (.cel n)) (q : Q (.cel n) μ) : vK δ i μ Q := ⟨_, _, by unfold mVar; rw [h], q⟩
theorem wE_c (q : Q (.dat d) μ) : wE (mC d) δ μ Q := ⟨_, _, rfl, q⟩
theorem wE_op {g : R → R → Mu → Option R} (h : wE ma δ μ fun x μ1 => wE mb δ μ1 fun y μ2 => oK (g x y μ2) fun z => Q z μ2) : wE (mOp g ma mb) δ μ Q := by
  obtain ⟨x, μ1, h1, y, μ2, h2, z, h3, h4⟩ := h
  exact ⟨z, μ2, mop_eq h1 h2 h3, h4⟩
theorem wE_chain {g g' : R → R → Mu → Option R} (h : wE ma δ μ fun x μ1 => wE mb δ μ1 fun y μ2 => ∃ b, g x y μ2 = some (.dat (.bl b)) ∧ cnd b (wE mc δ μ2 fun z μ3 => oK (g' y z μ3) fun u => Q u μ3) (Q (.dat (.bl false)) μ2)) : wE (mChain g g' ma mb mc) δ μ Q := by
  obtain ⟨x, μ1, h1, y, μ2, h2, b, h3, h4⟩ := h
  cases b with
  | true =>
    obtain ⟨z, μ3, g1, u, g2, g3⟩ := h4.1 rfl
    exact ⟨u, μ3, by simp only [mChain, h1, h2, h3, g1, g2], g3⟩
  | false => exact ⟨_, μ2, by simp only [mChain, h1, h2, h3], h4.2 rfl⟩
theorem wE_un {g : Int → Int} (h : wE m δ μ fun r μ' => ∃ x, r = .dat (.int x) ∧ Q (.dat (.int (g x))) μ') : wE (mUn g m) δ μ Q := by
  obtain ⟨r, μ', h1, x, rfl, h2⟩ := h
  exact ⟨_, μ', by simp only [mUn, h1], h2⟩
def bK (r : R) (k : Bool → Prop) : Prop := ∃ b, r = .dat (.bl b) ∧ k b
theorem bK_bl {K : Bool → Prop} {b : Bool} (h : K b) : bK (.dat (.bl b)) K := ⟨_, rfl, h⟩
def iK (r : R) (k : Int → Prop) : Prop := ∃ b, r = .dat (.int b) ∧ k b
theorem iK_int {K : Int → Prop} {b : Int} (h : K b) : iK (.dat (.int b)) K := ⟨_, rfl, h⟩
theorem wE_not (h : wE m δ μ fun r μ' => bK r fun b => Q (.dat (.bl (!b))) μ') : wE (mNot m) δ μ Q := by
  obtain ⟨r, μ', h1, x, rfl, h2⟩ := h
  exact ⟨_, μ', by simp only [mNot, h1], h2⟩
theorem wE_if (h : wT mt δ μ fun b μ' => cnd b (wE ma δ μ' Q) (wE mb δ μ' Q)) : wE (mIf mt ma mb) δ μ Q := by
  obtain ⟨b, μ', h1, h2⟩ := h
  cases b with
  | true =>
    obtain ⟨r, μ2, g1, g2⟩ := h2.1 rfl
    exact ⟨r, μ2, by simp only [mIf, h1, g1], g2⟩
  | false =>
    obtain ⟨r, μ2, g1, g2⟩ := h2.2 rfl
    exact ⟨r, μ2, by simp only [mIf, h1, g1], g2⟩
theorem wE_or (h : wE ma δ μ fun x μ' => oK (truR x μ') fun b => cnd b (Q x μ') (wE mb δ μ' Q)) : wE (mOr ma mb) δ μ Q := by
  obtain ⟨x, μ', h1, b, h2, h3⟩ := h
  cases b with
  | true => exact ⟨x, μ', by simp only [mOr, h1, h2], h3.1 rfl⟩
  | false =>
    obtain ⟨r, μ2, g1, g2⟩ := h3.2 rfl
    exact ⟨r, μ2, by simp only [mOr, h1, h2, g1], g2⟩
theorem wE_and (h : wE ma δ μ fun x μ' => oK (truR x μ') fun b => cnd b (wE mb δ μ' Q) (Q x μ')) : wE (mAnd ma mb) δ μ Q := by
  obtain ⟨x, μ', h1, b, h2, h3⟩ := h
  cases b with
  | false => exact ⟨x, μ', by simp only [mAnd, h1, h2], h3.2 rfl⟩
  | true =>
    obtain ⟨r, μ2, g1, g2⟩ := h3.1 rfl
    exact ⟨r, μ2, by simp only [mAnd, h1, h2, g1], g2⟩
theorem wT_b (h : wE m δ μ fun r μ' => bK r fun b => QT b μ') : wT (mB m) δ μ QT := by
  obtain ⟨r, μ', h1, x, rfl, h2⟩ := h
  exact ⟨_, μ', b_eq h1, h2⟩
theorem wT_not (h : wT mt δ μ fun b μ' => QT (!b) μ') : wT (mtNot mt) δ μ QT := by
  obtain ⟨r, μ', h1, h2⟩ := h
  exact ⟨_, μ', not_eq h1, h2⟩
theorem wT_and (h : wT mt δ μ fun b μ' => cnd b (wT mu δ μ' QT) (QT false μ')) : wT (mtAnd mt mu) δ μ QT := by
  obtain ⟨b, μ', h1, h2⟩ := h
  cases b with
  | false => exact ⟨false, μ', by simp only [mtAnd, h1], h2.2 rfl⟩
  | true =>
    obtain ⟨r, μ2, g1, g2⟩ := h2.1 rfl
    exact ⟨r, μ2, by simp only [mtAnd, h1, g1], g2⟩
theorem wT_or (h : wT mt δ μ fun b μ' => cnd b (QT true μ') (wT mu δ μ' QT)) : wT (mtOr mt mu) δ μ QT := by
  obtain ⟨b, μ', h1, h2⟩ := h
  cases b with
  | true => exact ⟨true, μ', by simp only [mtOr, h1], h2.1 rfl⟩
  | false =>
    obtain ⟨r, μ2, g1, g2⟩ := h2.2 rfl
    exact ⟨r, μ2, by simp only [mtOr, h1, g1], g2⟩

def aK (r : R) (k : R → Prop) : Prop := (∀ c, r ≠ .fc c) ∧ k (froz r)
theorem aK_dat {K : R → Prop} (h : K (.dat d)) : aK (.dat d) K := ⟨fun _ z => (by cases z), h⟩
theorem aK_fr {K : R → Prop} {xs : List D} (h : K (.dat (.lst xs))) : aK (.fr xs) K := ⟨fun _ z => (by cases z), h⟩
theorem aK_cel {K : R → Prop} {n : Nat} (h : K (.cel n)) : aK (.cel n) K := ⟨fun _ z => (by cases z), h⟩
theorem wA_nil (h : QA [] μ) : wA mNil δ μ QA := ⟨_, _, rfl, h⟩
theorem wA_cons (h : wE m δ μ fun r μ' => aK r fun r' => wA ms δ μ' fun rs μ2 => QA (r' :: rs) μ2) : wA (mCons m ms) δ μ QA := by
  obtain ⟨r, μ', h1, hf, rs, μ2, h2, h3⟩ := h
  exact ⟨_, μ2, cons_eq hf h1 h2, h3⟩
theorem wE_tup (h : wA ms δ μ fun rs μ' => oK (allD rs) fun ds => ds.length ≤ 100000 ∧ Q (.dat (.tup ds)) μ') : wE (mTup ms) δ μ Q := by
  obtain ⟨rs, μ', h1, ds, h2, h3, h4⟩ := h
  exact ⟨_, μ', tup_eq h1 h2 h3, h4⟩
theorem wE_lst (h : wA ms δ μ fun rs μ' => oK (allD rs) fun ds => ds.length ≤ 100000 ∧ Q (.fr ds) μ') : wE (mLst ms) δ μ Q := by
  obtain ⟨rs, μ', h1, ds, h2, h3, h4⟩ := h
  exact ⟨_, μ', lst_eq h1 h2 h3, h4⟩
theorem wE_cb {g : List R → Mu → Option R} (h : wA ms δ μ fun rs μ' => oK (g rs μ') fun z => Q z μ') : wE (mCb g ms) δ μ Q := by
  obtain ⟨rs, μ', h1, z, h2, h3⟩ := h
  exact ⟨z, μ', cb_eq h1 h2, h3⟩
theorem wE_call (h : wA ms δ μ fun rs μ' => wF f rs μ' Q) : wE (mCall f ms) δ μ Q := by
  obtain ⟨rs, μ', h1, r, μ2, h2, h3⟩ := h
  exact ⟨r, μ2, call_eq h1 h2, h3⟩
theorem wE_callK {np nk : Nat} {is : List Nat} (h : wA ms δ μ fun rs μ' => wA mk δ μ' fun zs μ2 => (rs.length = np ∧ zs.length = nk) ∧ wF f (pick is (rs ++ zs)) μ2 Q) : wE (mCallK f np nk is ms mk) δ μ Q := by
  obtain ⟨rs, μ', h1, zs, μ2, h2, h3, r, μ3, h4, h5⟩ := h
  exact ⟨r, μ3, callK_eq h1 h2 h3 h4, h5⟩
@[simp] def isIns (c : Nat) : R → Bool
  | .dat (.ins c' _) => c' == c
  | _ => false
theorem isIns_toS (g : Fo) : isIns 0 (.dat g.toS) = true := by cases g <;> rfl
theorem isIns_of {c : Nat} (h : isIns c r = true) : ∃ xs, r = .dat (.ins c xs) := by
  unfold isIns at h
  split at h
  · rename_i c' xs
    have e : c' = c := by simpa using h
    subst e
    exact ⟨xs, rfl⟩
  · cases h
theorem wE_meth {c : Nat} (h : wE mo δ μ fun x μ' => isIns c x = true ∧ wA ms δ μ' fun rs μ2 => wF f (x :: rs) μ2 Q) : wE (mMeth c f mo ms) δ μ Q := by
  obtain ⟨x, μ', h1, h2, rs, μ2, h3, r, μ3, h4, h5⟩ := h
  obtain ⟨xs, rfl⟩ := isIns_of h2
  exact ⟨r, μ3, by simp only [mMeth, h1, h3, if_true, h4], h5⟩
theorem wE_methK {c np nk : Nat} {is : List Nat} (h : wE mo δ μ fun x μ' => isIns c x = true ∧ wA ms δ μ' fun rs μ2 => wA mk δ μ2 fun zs μ3 => (rs.length + 1 = np ∧ zs.length = nk) ∧ wF f (pick is (x :: rs ++ zs)) μ3 Q) : wE (mMethK c f np nk is mo ms mk) δ μ Q := by
  obtain ⟨x, μ', h1, h2, rs, μ2, h3, zs, μ3, h4, h5, r, μ4, h6, h7⟩ := h
  obtain ⟨xs, rfl⟩ := isIns_of h2
  exact ⟨r, μ4, by simp only [mMethK, h1, h3, h4, if_true, h5, and_self, h6], h7⟩
theorem wE_attr {c : Nat} {xs : List D} (h : wE m δ μ fun r μ' => ∃ xs d, r = .dat (.ins c xs) ∧ xs[i]? = some d ∧ Q (.dat d) μ') : wE (mAttr c i m) δ μ Q := by
  obtain ⟨r, μ', h1, xs, d, rfl, h2, h3⟩ := h
  exact ⟨_, μ', by simp only [mAttr, h1, if_true, h2], h3⟩
theorem wE_bm {g : Nat → List R → Mu → Option (R × Mu)} (h : wE m δ μ fun r μ' => ∃ n, r = .cel n ∧ isLst μ'[n]? = true ∧ wA ms δ μ' fun rs μ2 => oK (g n rs μ2) fun z => Q z.1 z.2) : wE (mBm g m ms) δ μ Q := by
  obtain ⟨r, μ', h1, n, rfl, h2, rs, μ2, h3, z, h4, h5⟩ := h
  exact ⟨z.1, z.2, bm_eq h1 h3 h4 h2, h5⟩
theorem bmK {g : Nat → List R → Mu → Option (R × Mu)} {n : Nat} (h2 : isLst μ[n]? = true) (h : wA ms δ μ fun rs μ2 => oK (g n rs μ2) fun z => Q z.1 z.2) : ∃ n', R.cel n = .cel n' ∧ isLst μ[n']? = true ∧ wA ms δ μ fun rs μ2 => oK (g n' rs μ2) fun z => Q z.1 z.2 := ⟨n, rfl, h2, h⟩
theorem oK_append {n : Nat} {K : R × Mu → Prop} {xs : List D} (h : μ[n]? = some (.l xs)) (h1 : xs.length < 100000) (q : K (.dat .non, μ.set n (.l (xs ++ [d])))) : oK (fAppend n [.dat d] μ) K := by
  refine ⟨_, ?_, q⟩
  unfold fAppend
  dsimp only
  rw [h]
  dsimp only
  rw [if_pos h1]

theorem wF_0 (h : f rs [] = some (r, [])) (hc : cellsIn rs = []) (hp : plainR r = true) (q : Q r μ) : wF (callX f) rs μ Q := by
  refine ⟨r, μ, ?_, q⟩
  unfold callX
  rw [hc]
  dsimp only
  rw [h]
  dsimp only
  rw [if_pos hp]
theorem wF_1 {b b' : List D} {n : Nat} (h : f (reCel rs) [.l b] = some (r, [.l b'])) (hc : cellsIn rs = [n]) (hn : μ[n]? = some (.l b)) (hp : plainR r = true) (q : Q r (μ.set n (.l b'))) : wF (callX f) rs μ Q := ⟨r, _, callX1 (ν := []) hc hn h hp, q⟩
theorem reCel_none : ∀ {rs : List R}, cellsIn rs = [] → reCel rs = rs
  | [], _ => rfl
  | .cel _ :: _, h => by cases h
  | .dat d :: rs, h => by
    show R.dat d :: reCel rs = _
    rw [reCel_none (rs := rs) h]
  | .no :: rs, h => by
    show R.no :: reCel rs = _
    rw [reCel_none (rs := rs) h]
  | .fr xs :: rs, h => by
    show R.fr xs :: reCel rs = _
    rw [reCel_none (rs := rs) h]
  | .fc c :: rs, h => by
    show R.fc c :: reCel rs = _
    rw [reCel_none (rs := rs) h]
theorem wF_box {b b' : List D} {n : Nat} {rest : List R} (h : f (.cel 0 :: rest) [.l b] = some (r, [.l b'])) (hc : cellsIn rest = []) (hn : μ[n]? = some (.l b)) (hp : plainR r = true) (q : Q r (μ.set n (.l b'))) : wF (callX f) (.cel n :: rest) μ Q := by
  refine wF_1 (b := b) (b' := b') (n := n) ?_ (by show n :: cellsIn rest = [n]; rw [hc]) hn hp q
  show f (.cel 0 :: reCel rest) [.l b] = _
  rw [reCel_none hc]
  exact h
theorem wF_any (h : f rs μ = some (r, μ1)) (q : Q r μ1) : wF f rs μ Q := ⟨_, _, h, q⟩
theorem wF_view {ps : List Bool} {rs' : List R} {ks : List Nat} (hv : viewAt μ ps rs = some (rs', ks)) (hc : cellsIn rs' = []) (h : f rs' [] = some (r, [])) (hp : lfR r = true) (q : Q r μ) : wF (callV ps f) rs μ Q := by
  refine ⟨r, μ, ?_, q⟩
  unfold callV
  rw [hv]
  dsimp only
  rw [hc]
  dsimp only
  rw [h]
  dsimp only
  rw [if_pos hp]

def itK (r : R) (μ : Mu) (k : List D → (Mu → Bool) → Prop) : Prop := ∃ xs gd, mIt (fun _ μ => some (r, μ)) [] μ = some (xs, gd, μ) ∧ k xs gd
theorem wI_it (h : wE m δ μ fun r μ' => itK r μ' fun xs gd => QI xs gd μ') : wI (mIt m) δ μ QI := by
  obtain ⟨r, μ', h1, xs, gd, h2, h3⟩ := h
  refine ⟨xs, gd, μ', ?_, h3⟩
  simp only [mIt, mItL, mItT, h1] at h2 ⊢
  exact h2
theorem itK_lst {K : List D → (Mu → Bool) → Prop} {xs : List D} (h : K xs yes) : itK (.dat (.lst xs)) μ K := ⟨xs, yes, rfl, h⟩
theorem itK_fr {K : List D → (Mu → Bool) → Prop} {xs : List D} (h : K xs yes) : itK (.fr xs) μ K := ⟨xs, yes, rfl, h⟩
theorem itK_tup {K : List D → (Mu → Bool) → Prop} {xs : List D} (h : K xs yes) : itK (.dat (.tup xs)) μ K := ⟨xs, yes, rfl, h⟩
theorem itK_sq {K : List D → (Mu → Bool) → Prop} {b : Bool} {xs : List D} (h : K xs yes) : itK (.dat (sqD b xs)) μ K := by
  cases b
  · exact itK_lst h
  · exact itK_tup h
theorem itK_cel {K : List D → (Mu → Bool) → Prop} {n : Nat} {xs : List D} (hx : μ[n]? = some (.l xs)) (h : K xs (gdC n xs)) : itK (.cel n) μ K := ⟨xs, gdC n xs, it_cel (m := fun _ μ => some (.cel n, μ)) rfl hx, h⟩
theorem wI_r1 (h : wA ms δ μ fun rs μ' => ∃ n, rs = [.dat (.int n)] ∧ (-1000000 ≤ n ∧ n ≤ 1000000) ∧ QI (rgD 0 n) yes μ') : wI (mItR1 ms) δ μ QI := by
  obtain ⟨rs, μ', h1, n, rfl, h2, h3⟩ := h
  exact ⟨_, _, μ', itR1_eq h1 h2.1 h2.2, h3⟩
theorem wI_r2 (h : wA ms δ μ fun rs μ' => ∃ a n, rs = [.dat (.int a), .dat (.int n)] ∧ (-1000000 ≤ a ∧ a ≤ 1000000 ∧ -1000000 ≤ n ∧ n ≤ 1000000) ∧ QI (rgD a n) yes μ') : wI (mItR2 ms) δ μ QI := by
  obtain ⟨rs, μ', h1, a, n, rfl, h2, h3⟩ := h
  exact ⟨_, _, μ', itR2_eq h1 h2.1 h2.2.1 h2.2.2.1 h2.2.2.2, h3⟩
theorem r1K {n : Int} (h2 : -1000000 ≤ n ∧ n ≤ 1000000) (h : QI (rgD 0 n) yes μ) : ∃ n', [R.dat (.int n)] = [.dat (.int n')] ∧ (-1000000 ≤ n' ∧ n' ≤ 1000000) ∧ QI (rgD 0 n') yes μ := ⟨n, rfl, h2, h⟩
theorem r2K {a n : Int} (h2 : -1000000 ≤ a ∧ a ≤ 1000000 ∧ -1000000 ≤ n ∧ n ≤ 1000000) (h : QI (rgD a n) yes μ) : ∃ a' n', [R.dat (.int a), R.dat (.int n)] = [.dat (.int a'), .dat (.int n')] ∧ (-1000000 ≤ a' ∧ a' ≤ 1000000 ∧ -1000000 ≤ n' ∧ n' ≤ 1000000) ∧ QI (rgD a' n') yes μ := ⟨a, n, rfl, h2, h⟩
theorem wE_lc {mi : MI} {t : TGT} {me : ME} {vs : List Nat} (h : wI mi δ μ fun xs gd μ' => wLc gd t mt me (wipeR δ vs) xs μ' fun ys μ2 => Q (.fr ys) μ2) : wE (mLc mi t mt me vs) δ μ Q := by
  obtain ⟨xs, gd, μ', h1, ys, μ2, h2, h3⟩ := h
  exact ⟨_, _, lc_eq h1 h2, h3⟩
/-- a comprehension over things that stand for data; the state stays -/
theorem wLc_filter {gd : Mu → Bool} {t : TGT} {mt : MT} {me : ME} {β : Type} {w g : β → D} {p : β → Bool} {xs : List β} {QL : List D → Mu → Prop} (hg : gd μ = true) (hl : xs.length ≤ 100000)
    (h : ∀ x ∈ xs, oK (t (w x) δ) fun δ1 => wT mt δ1 μ fun b μ1 => μ1 = μ ∧ b = p x ∧ (p x = true → wE me δ1 μ fun r μ2 => μ2 = μ ∧ toD r = some (g x))) (q : QL ((xs.filter p).map g) μ) : wLc gd t mt me δ (xs.map w) μ QL := by
  refine ⟨_, μ, ?_, q⟩
  have := lcWf (gd := gd) (t := t) (mt := mt) (me := me) (δ := δ) (μ := μ) (w := w) (g := g) (p := p) hg xs [] (by simpa using hl) fun x hx => by
    obtain ⟨δ1, h1, b, μ1, h2, rfl, rfl, h3⟩ := h x hx
    refine ⟨δ1, h1, h2, fun z => ?_⟩
    obtain ⟨r, μ2, g1, rfl, g2⟩ := h3 z
    exact ⟨r, g1, g2⟩
  simpa using this
theorem wLc_map {gd : Mu → Bool} {t : TGT} {me : ME} {β : Type} {w g : β → D} {xs : List β} {QL : List D → Mu → Prop} (hg : gd μ = true) (hl : xs.length ≤ 100000)
    (h : ∀ x ∈ xs, oK (t (w x) δ) fun δ1 => wE me δ1 μ fun r μ2 => μ2 = μ ∧ toD r = some (g x)) (q : QL (xs.map g) μ) : wLc gd t mYes me δ (xs.map w) μ QL := by
  refine ⟨_, μ, lcW hg xs hl fun x hx => ?_, q⟩
  obtain ⟨δ1, h1, r, μ2, g1, rfl, g2⟩ := h x hx
  exact ⟨δ1, h1, r, g1, g2⟩
/-- a loop by what holds ahead of the i-th item -/
theorem wL_inv {gd : Mu → Bool} {t : TGT} {mb : MS} {β : Type} {w : β → D} (I : List β → Sl → Mu → Prop) {xs : List β} (h0 : I xs δ μ)
    (hs : ∀ x ys δ μ, I (x :: ys) δ μ → gd μ = true ∧ oK (t (w x) δ) fun δ1 => wS mb δ1 μ fun fl => match fl with
      | .nx δ' μ' => I ys δ' μ'
      | .ct δ' μ' => I ys δ' μ'
      | .bk δ' μ' => QS (.nx δ' μ')
      | .rt r μ' => QS (.rt r μ'))
    (hQ : ∀ δ μ, I [] δ μ → gd μ = true ∧ QS (.nx δ μ)) : wL gd t mb (xs.map w) δ μ QS := by
  induction xs generalizing δ μ with
  | nil =>
    obtain ⟨h1, h2⟩ := hQ δ μ h0
    exact ⟨_, by simp [loop, h1], h2⟩
  | cons x xs ih =>
    obtain ⟨h1, δ1, h2, fl, h3, h4⟩ := hs x xs δ μ h0
    cases fl with
    | nx δ' μ' =>
      obtain ⟨fl, g1, g2⟩ := ih h4
      exact ⟨fl, by simp only [List.map_cons, loop, h1, h2, h3, if_true]; exact g1, g2⟩
    | ct δ' μ' =>
      obtain ⟨fl, g1, g2⟩ := ih h4
      exact ⟨fl, by simp only [List.map_cons, loop, h1, h2, h3, if_true]; exact g1, g2⟩
    | bk δ' μ' => exact ⟨_, by simp only [List.map_cons, loop, h1, h2, h3, if_true], h4⟩
    | rt r μ' => exact ⟨_, by simp only [List.map_cons, loop, h1, h2, h3, if_true], h4⟩

@[simp] def retF (n : Nat) : Flo → Option (R × Mu)
  | .rt r μ => retR n r μ
  | .nx _ μ => retR n (.dat .non) μ
  | _ => none
theorem fn_of {n N : Nat} {body : MS} {z : R × Mu} (hl : rs.length = n) (h : wS body (rs ++ List.replicate (N - n) .no) μ fun fl => retF μ.length fl = some z) : mDef n N body rs μ = some z := by
  obtain ⟨fl, h1, h2⟩ := h
  unfold mDef
  rw [if_pos hl, h1]
  cases fl with
  | rt r μ' => exact h2
  | nx δ' μ' => exact h2
  | bk δ' μ' => cases h2
  | ct δ' μ' => cases h2
theorem fn_wp {n N : Nat} {body : MS} (hl : rs.length = n) (h : wS body (rs ++ List.replicate (N - n) .no) μ fun fl => oK (retF μ.length fl) fun z => Q z.1 z.2) : wF (mDef n N body) rs μ Q := by
  obtain ⟨fl, h1, z, h2, h3⟩ := h
  exact ⟨z.1, z.2, fn_of hl ⟨fl, h1, h2⟩, h3⟩
theorem w_eq {z : R × Mu} (h : wF f rs μ fun r μ' => r = z.1 ∧ μ' = z.2) : f rs μ = some z := by
  obtain ⟨r, μ', h1, rfl, rfl⟩ := h
  exact h1

section
variable {a b : Int} {K : R → Prop}
theorem op_sub' (h : K (.dat (.int (a - b)))) : oK (fSub (.dat (.int a)) (.dat (.int b)) μ) K := ⟨_, rfl, h⟩
theorem op_add' (h : K (.dat (.int (a + b)))) : oK (fAdd (.dat (.int a)) (.dat (.int b)) μ) K := ⟨_, rfl, h⟩
theorem op_div' (h0 : 0 < b) (h1 : b < 1073741824) (h : K (.dat (.int (a / b)))) : oK (fDiv (.dat (.int a)) (.dat (.int b)) μ) K := ⟨_, by simp [h0, h1], h⟩
theorem op_mod' (h0 : 0 < b) (h : K (.dat (.int (a % b)))) : oK (fMod (.dat (.int a)) (.dat (.int b)) μ) K := ⟨_, by simp [h0], h⟩
theorem op_mul' (hc : cMul a b = true) (h : K (.dat (.int (a * b)))) : oK (fMul (.dat (.int a)) (.dat (.int b)) μ) K := ⟨_, by simp [hc], h⟩
theorem op_lt' (h : K (.dat (.bl (decide (a < b))))) : oK (fLt (.dat (.int a)) (.dat (.int b)) μ) K := ⟨_, rfl, h⟩
theorem op_ltI' (h : K (.dat (.bl (decide (a < b))))) : oK (fLtI (.dat (.int a)) (.dat (.int b)) μ) K := ⟨_, rfl, h⟩
theorem op_le' (h : K (.dat (.bl (decide (a ≤ b))))) : oK (fLeI (.dat (.int a)) (.dat (.int b)) μ) K := ⟨_, rfl, h⟩
theorem op_gt' (h : K (.dat (.bl (decide (b < a))))) : oK (fGtI (.dat (.int a)) (.dat (.int b)) μ) K := ⟨_, rfl, h⟩
theorem op_ge' (h : K (.dat (.bl (decide (b ≤ a))))) : oK (fGeI (.dat (.int a)) (.dat (.int b)) μ) K := ⟨_, rfl, h⟩
theorem op_eqi' (h : K (.dat (.bl (decide (a = b))))) : oK (fEq false (.dat (.int a)) (.dat (.int b)) μ) K := ⟨_, by simp [fEq], h⟩
theorem op_nei' (h : K (.dat (.bl (!decide (a = b))))) : oK (fEq true (.dat (.int a)) (.dat (.int b)) μ) K := ⟨_, by simp [fEq], h⟩
theorem op_eqb' {a b : Bool} (h : K (.dat (.bl (decide (a = b))))) : oK (fEq false (.dat (.bl a)) (.dat (.bl b)) μ) K := ⟨_, by simp [fEq], h⟩
theorem op_neb' {a b : Bool} (h : K (.dat (.bl (!decide (a = b))))) : oK (fEq true (.dat (.bl a)) (.dat (.bl b)) μ) K := ⟨_, by simp [fEq], h⟩
theorem cb_len_lst {xs : List D} (h : K (.dat (.int (xs.length : Int)))) : oK (fLen [.dat (.lst xs)] μ) K := ⟨_, fLen_lst rfl μ, h⟩
theorem cb_len_tup {xs : List D} (h : K (.dat (.int (xs.length : Int)))) : oK (fLen [.dat (.tup xs)] μ) K := ⟨_, rfl, h⟩
theorem cb_len_sq {q : Bool} {xs : List D} (h : K (.dat (.int (xs.length : Int)))) : oK (fLen [.dat (sqD q xs)] μ) K := by
  cases q
  · exact cb_len_lst h
  · exact cb_len_tup h
theorem cb_len_cel {n : Nat} {xs : List D} (hx : μ[n]? = some (.l xs)) (h : K (.dat (.int (xs.length : Int)))) : oK (fLen [.cel n] μ) K := ⟨_, by simp [fLen, hx], h⟩
theorem cb_tuple {xs : List D} (h : K (.dat (.tup xs))) : oK (fTuple [.dat (.lst xs)] μ) K := ⟨_, rfl, h⟩
theorem cb_tupleC {n : Nat} {xs : List D} (hx : μ[n]? = some (.l xs)) (h : K (.dat (.tup xs))) : oK (fTuple [.cel n] μ) K := ⟨_, by simp [fTuple, hx], h⟩
theorem cb_list {xs : List D} (h : K (.fr xs)) : oK (fList [.dat (.lst xs)] μ) K := ⟨_, rfl, h⟩
theorem cb_listT {xs : List D} (h : K (.fr xs)) : oK (fList [.dat (.tup xs)] μ) K := ⟨_, rfl, h⟩
theorem cb_abs {x : Int} (h : K (.dat (.int (x.natAbs : Int)))) : oK (fAbs [.dat (.int x)] μ) K := ⟨_, by simp only [fAbs, abs_nat], h⟩
theorem cb_int {x : Int} (h : K (.dat (.int x))) : oK (fInt [.dat (.int x)] μ) K := ⟨_, rfl, h⟩
theorem cb_all {β : Type} {l : List β} {p : β → Bool} (h : K (.dat (.bl (l.all p)))) : oK (fAll [.dat (.lst (l.map fun x => .bl (p x)))] μ) K := ⟨_, all_bl l p, h⟩
theorem cb_sorted {ns : List Int} (h : K (.fr ((isort ns).map D.int))) : oK (fSorted [.dat (.lst (ns.map D.int))] μ) K := ⟨_, fsorted, h⟩
theorem op_ix {q : Bool} {ns : List Int} {n : Nat} (hn : n < ns.length) (h : K (.dat (.int ns[n]))) : oK (fIx (.dat (sqD q (ns.map D.int))) (.dat (.int (n : Int))) μ) K := by
  have := ix_sq (ma := fun _ μ => some (.dat (sqD q (ns.map D.int)), μ)) (mb := fun _ μ => some (.dat (.int (n : Int)), μ)) (δ := []) (μ := μ) (μ1 := μ) (μ2 := μ) rfl rfl hn
  simp only [mOp] at this
  refine ⟨_, ?_, h⟩
  split at this
  · cases this
  · rename_i z e
    cases this
    exact e
end
end
end DL
set_option Elab.async false
set_option linter.all false
set_option maxRecDepth 100000
set_option maxHeartbeats 1000000
local macro_rules | `(tactic| bv_omega) => `(tactic| first
  | (with_reducible refine DL.fn_of rfl ?_; dsimp only [List.cons_append, List.nil_append, List.reduceReplicate, Nat.reduceSub]; bv_omega)
  | (with_reducible refine DL.wS_seq ?_; bv_omega)
  | (with_reducible refine DL.sqK_nx ?_; bv_omega)
  | (with_reducible refine DL.sqK_rt ?_; bv_omega)
  | (with_reducible refine DL.wS_ret ?_; bv_omega)
  | (with_reducible refine DL.wS_if ?_; bv_omega)
  | (with_reducible refine DL.wS_set ?_; bv_omega)
  | (with_reducible refine DL.wS_setC ?_; bv_omega)
  | (with_reducible refine DL.wS_par ?_; bv_omega)
  | (with_reducible refine DL.wS_par3 ?_; bv_omega)
  | (with_reducible refine DL.wS_asg ?_; bv_omega)
  | (with_reducible refine DL.wS_drop ?_; bv_omega)
  | (with_reducible refine DL.wS_for ?_; bv_omega)
  | (with_reducible refine DL.wS_nx ?_; bv_omega)
  | (with_reducible refine DL.wS_bk ?_; bv_omega)
  | (with_reducible refine DL.wS_ct ?_; bv_omega)
  | (with_reducible refine DL.stK_dat ?_; try dsimp only [List.set_cons_zero, List.set_cons_succ]; bv_omega)
  | (with_reducible refine DL.stK_fr ?_; try dsimp only [List.set_cons_zero, List.set_cons_succ]; bv_omega)
  | (with_reducible refine DL.stK_cel ?_; try dsimp only [List.set_cons_zero, List.set_cons_succ]; bv_omega)
  | (with_reducible refine DL.stK_new ?_; try dsimp only [List.set_cons_zero, List.set_cons_succ, List.length_cons, List.length_nil, List.cons_append, List.nil_append, Nat.zero_add, Nat.reduceAdd]; bv_omega)
  | (with_reducible refine DL.wE_var ?_; (first | refine DL.vK_dat rfl ?_ | refine DL.vK_cel rfl ?_); bv_omega)
  | (with_reducible refine DL.wE_c ?_; bv_omega)
  | (with_reducible refine DL.wE_op ?_; bv_omega)
  | (with_reducible refine DL.wE_un ?_; bv_omega)
  | (with_reducible refine DL.wE_not ?_; bv_omega)
  | (with_reducible refine DL.wE_if ?_; bv_omega)
  | (with_reducible refine DL.wE_or ?_; bv_omega)
  | (with_reducible refine DL.wE_and ?_; bv_omega)
  | (with_reducible refine DL.wE_tup ?_; bv_omega)
  | (with_reducible refine DL.wE_lst ?_; bv_omega)
  | (with_reducible refine DL.wE_cb ?_; bv_omega)
  | (with_reducible refine DL.wE_call ?_; bv_omega)
  | (with_reducible refine DL.wE_callK ?_; bv_omega)
  | (with_reducible refine DL.wE_meth ?_; bv_omega)
  | (with_reducible refine DL.wE_methK ?_; bv_omega)
  | (with_reducible refine DL.wE_lc ?_; bv_omega)
  | (with_reducible refine DL.wE_bm ?_; bv_omega)
  | (with_reducible refine DL.wT_b ?_; bv_omega)
  | (with_reducible refine DL.wT_not ?_; bv_omega)
  | (with_reducible refine DL.wT_and ?_; bv_omega)
  | (with_reducible refine DL.wT_or ?_; bv_omega)
  | (with_reducible refine DL.wA_nil ?_; bv_omega)
  | (with_reducible refine DL.wA_cons ?_; bv_omega)
  | (with_reducible refine DL.aK_dat ?_; bv_omega)
  | (with_reducible refine DL.aK_fr ?_; bv_omega)
  | (with_reducible refine DL.aK_cel ?_; bv_omega)
  | (with_reducible refine DL.bK_bl ?_; bv_omega)
  | (with_reducible refine DL.dK_dat ?_; bv_omega)
  | (with_reducible refine DL.dK_fr ?_; bv_omega)
  | (with_reducible refine DL.cnd_true ?_; bv_omega)
  | (with_reducible refine DL.cnd_false ?_; bv_omega)
  | (with_reducible refine DL.cnd_not ?_; bv_omega)
  | (with_reducible refine DL.cnd_pos (by assumption) ?_; bv_omega)
  | (with_reducible refine DL.cnd_neg (by assumption) ?_; bv_omega)
  | (with_reducible refine DL.wI_it ?_; bv_omega)
  | (with_reducible refine DL.wI_r1 ?_; bv_omega)
  | (with_reducible refine DL.wI_r2 ?_; bv_omega)
  | (with_reducible refine DL.itK_lst ?_; bv_omega)
  | (with_reducible refine DL.itK_fr ?_; bv_omega)
  | (with_reducible refine DL.itK_tup ?_; bv_omega)
  | (with_reducible refine DL.itK_sq ?_; bv_omega)
  | (with_reducible refine DL.op_sub' ?_; bv_omega)
  | (with_reducible refine DL.op_add' ?_; bv_omega)
  | (with_reducible refine DL.op_lt' ?_; bv_omega)
  | (with_reducible refine DL.op_ltI' ?_; bv_omega)
  | (with_reducible refine DL.op_le' ?_; bv_omega)
  | (with_reducible refine DL.op_gt' ?_; bv_omega)
  | (with_reducible refine DL.op_ge' ?_; bv_omega)
  | (with_reducible refine DL.op_eqi' ?_; bv_omega)
  | (with_reducible refine DL.op_nei' ?_; bv_omega)
  | (with_reducible refine DL.op_eqb' ?_; bv_omega)
  | (with_reducible refine DL.op_neb' ?_; bv_omega)
  | (with_reducible refine DL.cb_len_lst ?_; bv_omega)
  | (with_reducible refine DL.cb_len_tup ?_; bv_omega)
  | (with_reducible refine DL.cb_len_sq ?_; bv_omega)
  | (with_reducible refine DL.cb_tuple ?_; bv_omega)
  | (with_reducible refine DL.cb_list ?_; bv_omega)
  | (with_reducible refine DL.cb_listT ?_; bv_omega)
  | (with_reducible refine DL.cb_abs ?_; bv_omega)
  | (with_reducible refine DL.cb_int ?_; bv_omega)
  | (with_reducible refine DL.cb_all ?_; bv_omega)
  | (with_reducible refine DL.cb_sorted ?_; bv_omega)
  | (refine DL.oK_some (o := DL.allD _) rfl ⟨Nat.le_of_ble_eq_true rfl, ?_⟩; bv_omega)
  | (refine ⟨_, rfl, ?_⟩; bv_omega)
  | (refine ⟨DL.isIns_toS _, ?_⟩; bv_omega)
  | (refine ⟨⟨rfl, rfl⟩, ?_⟩; bv_omega)
  | (with_reducible refine DL.wF_0 (by assumption) rfl rfl ?_; bv_omega)
  | (with_reducible refine DL.wF_box (by assumption) rfl rfl rfl ?_; try dsimp only [List.set_cons_zero, List.set_cons_succ]; bv_omega)
  | (refine DL.wF_0 (by apply_assumption) rfl rfl ?_; bv_omega)
  | skip)
namespace DL
open PySem PySem.Spec PyProof.Rows L2

structure Nr (nb : Int → Int → Bool) : Prop where
  refl : ∀ x, nb x x = true
  symm : ∀ x y, nb x y = nb y x
  lo : ∀ {a b c}, a ≤ b → b ≤ c → nb a c = true → nb a b = true
  hi : ∀ {a b c}, a ≤ b → b ≤ c → nb a c = true → nb b c = true
theorem nr_of {f : Fo} (h : f.ok) : Nr f.nb := by
  have lo : ∀ {a b c}, a ≤ b → b ≤ c → f.nb a c = true → f.nb a b = true := by
    intro a b c h1 h2 h3
    have h4 := nb_self h a
    have h3' := of_decide_eq_true (p := (f.reach a).1 ≤ c ∧ c ≤ (f.reach a).2) h3
    have h4' := of_decide_eq_true (p := (f.reach a).1 ≤ a ∧ a ≤ (f.reach a).2) h4
    exact decide_eq_true (p := (f.reach a).1 ≤ b ∧ b ≤ (f.reach a).2) ⟨by omega, by omega⟩
  refine ⟨nb_self h, nb_symm h, lo, ?_⟩
  intro a b c h1 h2 h3
  rw [nb_symm h] at h3 ⊢
  have h4 := nb_self h c
  have h3' := of_decide_eq_true (p := (f.reach c).1 ≤ a ∧ a ≤ (f.reach c).2) h3
  have h4' := of_decide_eq_true (p := (f.reach c).1 ≤ c ∧ c ≤ (f.reach c).2) h4
  exact decide_eq_true (p := (f.reach c).1 ≤ b ∧ b ≤ (f.reach c).2) ⟨by omega, by omega⟩
structure Ch (nb : Int → Int → Bool) (S : List Int) (C : List (List Int)) : Prop where
  flat : C.flatten = S
  ne : ∀ c ∈ C, c ≠ []
  sep : C.Pairwise fun c c' => ∀ x ∈ c, ∀ y ∈ c', nb x y = false
  link : ∀ c ∈ C, ∀ l1 a b l2, c = l1 ++ a :: b :: l2 → nb a b = true
theorem Ch.nil (nb : Int → Int → Bool) : Ch nb [] [] := ⟨rfl, by simp, .nil, by simp⟩
theorem Ch.app {nb : Int → Int → Bool} (N : Nr nb) {p : List Int} {A : List (List Int)} {c : List Int} {x v : Int} (h : Ch nb p (A ++ [c ++ [x]])) (hv : nb x v = true) (sp : ∀ y ∈ p, y ≤ x) (xv : x ≤ v) : Ch nb (p ++ [v]) (A ++ [c ++ [x] ++ [v]]) := by
  refine ⟨?_, ?_, ?_, ?_⟩
  · rw [← h.flat]
    simp
  · intro d hd
    rcases List.mem_append.mp hd with z | z
    · exact h.ne d (List.mem_append_left _ z)
    · rw [List.mem_singleton.mp z]
      simp
  · have s := List.pairwise_append.mp h.sep
    rw [List.pairwise_append]
    refine ⟨s.1, List.pairwise_singleton _ _, fun d hd d' hd' y hy w hw => ?_⟩
    rw [List.mem_singleton.mp hd'] at hw
    have old := s.2.2 d hd (c ++ [x]) (List.mem_singleton.mpr rfl) y hy
    rcases List.mem_append.mp hw with z | z
    · exact old w z
    · rw [List.mem_singleton.mp z]
      cases e : nb y v with
      | false => rfl
      | true =>
        have yp : y ∈ p := by
          rw [← h.flat]
          exact List.mem_flatten.mpr ⟨d, List.mem_append_left _ hd, hy⟩
        have := N.lo (sp y yp) xv e
        rw [old x (by simp)] at this
        cases this
  · intro d hd l1 a b l2 e
    rcases List.mem_append.mp hd with z | z
    · exact h.link d (List.mem_append_left _ z) l1 a b l2 e
    · rw [List.mem_singleton.mp z] at e
      rcases List.eq_nil_or_concat l2 with z2 | ⟨l3, w, z2⟩
      · subst z2
        have e1 : c ++ [x] ++ [v] = (l1 ++ [a]) ++ [b] := by rw [e]; simp
        have e2 := List.append_inj_left' e1 rfl
        have e3 := List.append_inj_right' e1 rfl
        have e4 := List.append_inj_right' e2 rfl
        simp at e3 e4
        rw [← e3, ← e4]
        exact hv
      · subst z2
        have e1 : c ++ [x] ++ [v] = (l1 ++ a :: b :: l3) ++ [w] := by rw [e]; simp
        have e2 := List.append_inj_left' e1 rfl
        exact h.link (c ++ [x]) (by simp) l1 a b l3 e2
theorem Ch.new {nb : Int → Int → Bool} {p : List Int} {A : List (List Int)} {v : Int} (h : Ch nb p A) (hv : ∀ y ∈ p, nb y v = false) : Ch nb (p ++ [v]) (A ++ [[v]]) := by
  refine ⟨?_, ?_, ?_, ?_⟩
  · rw [← h.flat]
    simp
  · intro d hd
    rcases List.mem_append.mp hd with z | z
    · exact h.ne d z
    · rw [List.mem_singleton.mp z]
      simp
  · rw [List.pairwise_append]
    refine ⟨h.sep, List.pairwise_singleton _ _, fun d hd d' hd' y hy w hw => ?_⟩
    rw [List.mem_singleton.mp hd'] at hw
    rw [List.mem_singleton.mp hw]
    refine hv y ?_
    rw [← h.flat]
    exact List.mem_flatten.mpr ⟨d, hd, hy⟩
  · intro d hd l1 a b l2 e
    rcases List.mem_append.mp hd with z | z
    · exact h.link d z l1 a b l2 e
    · rw [List.mem_singleton.mp z] at e
      have := congrArg List.length e
      simp at this
      omega

@[reducible] def M_chains_0 : MS := (mPar false true 2 3 (mCall (callX M_slack_of) (mCons (mVar 1) mNil)) (mLst mNil))
@[reducible] def M_chains_1 : MS := (mDrop (mBm fAppend (mOp fIxN (mVar 3) (mUn (fun i => -i) (mC (.int 1)))) (mCons (mVar 4) mNil)))
@[reducible] def M_chains_2 : MS := (mAppN (mVar 3) (mLst (mCons (mVar 4) mNil)))
@[reducible] def M_chains_3 (nr : MF) : MS := (mIfS (mtAnd (mB (mOp fGtI (mCb fLenN (mCons (mVar 3) mNil)) (mC (.int 0)))) (mB (mMeth 0 (callX nr) (mVar 2) (mCons (mOp fIx (mOp fIxN (mVar 3) (mUn (fun i => -i) (mC (.int 1)))) (mUn (fun i => -i) (mC (.int 1)))) (mCons (mVar 4) mNil))))) M_chains_1 M_chains_2)
@[reducible] def M_chains_4 (nr : MF) : MS := (mFor (mIt (mCall (callX (ascF asc2)) (mCons (mVar 0) mNil))) (tgName 4) (M_chains_3 nr))
@[reducible] def M_chains_e5 : ME := (mCb fTuple (mCons (mVar 5) mNil))
@[reducible] def M_chains_6 : MS := (mRet (mCb fTuple (mCons (mLcE (mItN (mVar 3)) 5 mYes M_chains_e5 [5]) mNil)))
def M_chains (nr : MF) : MF := mDef 2 6
  (mSeq M_chains_0
  (mSeq (M_chains_4 nr)
  M_chains_6))
def NearOk (nr : MF) (f : Fo) : Prop := ∀ a b : Int, nr [.dat f.toS, .dat (.int a), .dat (.int b)] [] = some (.dat (.bl (f.nb a b)), [])
def rgC (n : Nat) : List El := (List.range n).map fun i => El.c (i + 1)
def hdC (A : List (List Int)) : Cel := match A with
  | [] => .l []
  | _ :: _ => .n (rgC A.length)
def muC (A : List (List Int)) : Mu := hdC A :: A.map fun c => Cel.l (c.map D.int)
theorem nOf_hdC (A : List (List Int)) : nOf (some (hdC A)) = some (rgC A.length) := by
  cases A with
  | nil => rfl
  | cons c A => rfl
theorem isLst_hdC (A : List (List Int)) : isLst (some (hdC A)) = true := by
  cases A with
  | nil => rfl
  | cons c A => rfl
theorem muC_0 (A : List (List Int)) : (muC A)[0]? = some (hdC A) := rfl
theorem muC_s (A : List (List Int)) (c : List Int) (B : List (List Int)) : (muC (A ++ c :: B))[A.length + 1]? = some (.l (c.map D.int)) := by
  unfold muC
  rw [List.getElem?_cons_succ]
  simp
theorem rgC_succ (n : Nat) : rgC (n + 1) = rgC n ++ [.c (n + 1)] := by
  unfold rgC
  rw [List.range_succ, List.map_append]
  rfl
theorem rgC_len (n : Nat) : (rgC n).length = n := by
  unfold rgC
  simp
theorem atI_last {β : Type} (l : List β) (x : β) : atI (l ++ [x]) (-1) = some x := by
  unfold atI ixN
  have h1 : ¬ (0 : Int) ≤ -1 := by omega
  have h2 : (0 : Int) ≤ (-1) + ((l ++ [x]).length : Int) := by simp; omega
  have h3 : ((-1) + ((l ++ [x]).length : Int)).toNat = l.length := by simp; omega
  simp only [List.length_append, List.length_singleton] at h2 h3 ⊢
  rw [if_neg (by omega)]
  first
    | (rw [if_pos (by omega)]; simp only [Option.bind_some]; rw [show (-1 + ((l.length + 1 : Nat) : Int)).toNat = l.length by omega]; simp)
    | (rw [if_pos (by omega)]; simp only [Option.bind_some]; rw [show (((l.length + 1 : Nat) : Int) + -1).toNat = l.length by omega]; simp)
theorem muC_len (A : List (List Int)) : (muC A).length = A.length + 1 := by
  unfold muC
  simp
theorem muC_new (A : List (List Int)) (v : Int) : ((muC A) ++ [Cel.l [D.int v]]).set 0 (Cel.n (rgC A.length ++ [El.c (muC A).length])) = muC (A ++ [[v]]) := by
  rw [muC_len, ← rgC_succ]
  unfold muC
  rw [List.cons_append, List.set_cons_zero]
  have : hdC (A ++ [[v]]) = .n (rgC (A.length + 1)) := by
    cases A with
    | nil => rfl
    | cons c A => simp [hdC]
  rw [this]
  simp
theorem muC_app (A : List (List Int)) (c d : List Int) : (muC (A ++ [c])).set (A.length + 1) (.l (d.map D.int)) = muC (A ++ [d]) := by
  unfold muC
  rw [List.set_cons_succ]
  have : hdC (A ++ [d]) = hdC (A ++ [c]) := by
    cases A with
    | nil => rfl
    | cons _ A => simp [hdC]
  rw [this]
  simp
section
variable {nr : MF} {f : Fo} {d : D} {x0 x1 x4 x5 : R} {K : R → Prop} {A : List (List Int)} {c : List Int}
theorem lenN_muC (h : K (.dat (.int (A.length : Int)))) : oK (fLenN [.cel 0] (muC A)) K := by
  refine ⟨_, ?_, h⟩
  unfold fLenN
  dsimp only
  rw [muC_0, nOf_hdC]
  dsimp only
  rw [rgC_len]
theorem ixN_muC (h : K (.cel (A.length + 1))) : oK (fIxN (.cel 0) (.dat (.int (-1))) (muC (A ++ [c]))) K := by
  refine ⟨_, ?_, h⟩
  unfold fIxN
  dsimp only
  rw [muC_0, nOf_hdC]
  dsimp only
  rw [show (A ++ [c]).length = A.length + 1 by simp, rgC_succ, atI_last]
  rfl
theorem ix_muC {x : Int} (h : K (.dat (.int x))) : oK (fIx (.cel (A.length + 1)) (.dat (.int (-1))) (muC (A ++ [c ++ [x]]))) K := by
  refine ⟨_, ?_, h⟩
  unfold fIx
  have e : sqOf (.cel (A.length + 1)) (muC (A ++ [c ++ [x]])) = some (.l ((c ++ [x]).map D.int)) := by
    unfold sqOf lstOf
    dsimp only
    rw [muC_s]
    rfl
  dsimp only
  rw [e]
  dsimp only [Sq.all]
  rw [List.map_append]
  rw [show ([x].map D.int) = [D.int x] from rfl, atI_last]
theorem ch_body (hn : NearOk nr f) (N : Nr f.nb) {p : List Int} {v : Int} (hc : Ch f.nb p A) (sp : (p ++ [v]).Pairwise (· ≤ ·)) (hl : p.length ≤ 1000) : ∃ B, Ch f.nb (p ++ [v]) B ∧ M_chains_3 nr [x0, x1, .dat f.toS, .cel 0, .dat (.int v), x5] (muC A) = some (.nx [x0, x1, .dat f.toS, .cel 0, .dat (.int v), x5] (muC B)) := by
  have spv : ∀ y ∈ p, y ≤ v := fun y hy => (List.pairwise_append.mp sp).2.2 y hy v (by simp)
  have lA : A.length ≤ p.length := by
    have key : ∀ B : List (List Int), (∀ c ∈ B, c ≠ []) → B.length ≤ B.flatten.length := by
      intro B
      induction B with
      | nil => intro _; simp
      | cons b B ih =>
        intro h
        have h1 := ih fun c hc => h c (List.mem_cons_of_mem _ hc)
        have h2 : 0 < b.length := List.length_pos_iff.mpr (h b List.mem_cons_self)
        rw [List.length_cons, List.flatten_cons, List.length_append]
        omega
    have := key A hc.ne
    rw [hc.flat] at this
    exact this
  have neu : (∀ y ∈ p, f.nb y v = false) → wS M_chains_2 [x0, x1, .dat f.toS, .cel 0, .dat (.int v), x5] (muC A) fun fl => fl = .nx [x0, x1, .dat f.toS, .cel 0, .dat (.int v), x5] (muC (A ++ [[v]])) := fun h => by
    refine ⟨_, ?_, rfl⟩
    rw [← muC_new]
    unfold M_chains_2 mAppN
    have e1 : mVar 3 [x0, x1, .dat f.toS, .cel 0, .dat (.int v), x5] (muC A) = some (.cel 0, muC A) := rfl
    have e2 : mLst (mCons (mVar 4) mNil) [x0, x1, .dat f.toS, .cel 0, .dat (.int v), x5] (muC A) = some (.fr [.int v], muC A) := rfl
    rw [e1]
    dsimp only
    rw [muC_0, isLst_hdC]
    dsimp only
    rw [e2]
    dsimp only
    rw [muC_0, nOf_hdC]
    dsimp only
    rw [if_pos (by rw [rgC_len]; omega)]
  rcases List.eq_nil_or_concat A with z | ⟨A', c', z⟩
  · subst z
    have pz : p = [] := by rw [← hc.flat]; rfl
    refine ⟨[[v]], ?_, ?_⟩
    · have := hc.new (v := v) (by rw [pz]; simp)
      simpa using this
    · obtain ⟨fl, h1, h2⟩ := neu (by rw [pz]; simp)
      refine (ifF_eq (μ1 := muC []) (m1 := M_chains_1) ?_ h1).trans (by rw [h2]; rfl)
      rfl
  · subst z
    rcases List.eq_nil_or_concat c' with z | ⟨c, x, z⟩
    · exact absurd z (hc.ne c' (by simp))
    subst z
    rw [List.concat_eq_append, List.concat_eq_append] at *
    have xp : x ∈ p := by rw [← hc.flat]; simp
    have sx : ∀ y ∈ p, y ≤ x := by
      intro y hy
      rw [← hc.flat] at hy sp
      simp only [List.flatten_append, List.flatten_cons, List.flatten_nil, List.append_nil] at hy sp
      have s1 := (List.pairwise_append.mp sp).1
      rw [← List.append_assoc] at s1 hy
      rcases List.mem_append.mp hy with z | z
      · exact (List.pairwise_append.mp s1).2.2 y z x (by simp)
      · rw [List.mem_singleton.mp z]
        exact Int.le_refl _
    have w : wS (M_chains_3 nr) [x0, x1, .dat f.toS, .cel 0, .dat (.int v), x5] (muC (A' ++ [c ++ [x]])) fun fl => ∃ B, Ch f.nb (p ++ [v]) B ∧ fl = .nx [x0, x1, .dat f.toS, .cel 0, .dat (.int v), x5] (muC B) := by
      have hn' := hn x v
      bv_omega
      refine lenN_muC ?_
      bv_omega
      refine cnd_yes (by simp) ?_
      bv_omega
      refine ixN_muC ?_
      bv_omega
      refine ix_muC ?_
      bv_omega
      refine ⟨fun e => ?_, fun e => ?_⟩
      · bv_omega
        refine ixN_muC ?_
        bv_omega
        refine ⟨by rw [muC_s]; rfl, ?_⟩
        bv_omega
        refine oK_append (muC_s A' (c ++ [x]) []) (by
          have : (A' ++ [c ++ [x]]).flatten.length = p.length := by rw [hc.flat]
          simp at this ⊢
          omega) ?_
        refine ⟨_, hc.app N e sx (spv x xp), ?_⟩
        dsimp only
        rw [show (c ++ [x]).map D.int ++ [D.int v] = (c ++ [x] ++ [v]).map D.int by simp, muC_app]
      · have hno : ∀ y ∈ p, f.nb y v = false := by
          intro y hy
          cases q : f.nb y v with
          | false => rfl
          | true =>
            have := N.hi (sx y hy) (spv x xp) q
            rw [e] at this
            cases this
        obtain ⟨fl, h1, h2⟩ := neu hno
        exact ⟨fl, h1, _, hc.new hno, h2⟩
    obtain ⟨fl, h1, B, h2, rfl⟩ := w
    exact ⟨B, h2, h1⟩
theorem ch_lc (A : List (List Int)) (h : A.length ≤ 1000) : mLcE (mItN (mVar 3)) 5 mYes M_chains_e5 [5] [x0, x1, .dat f.toS, .cel 0, x4, x5] (muC A) = some (.fr (A.map fun c => .tup (c.map D.int)), muC A) := by
  have it : mItN (mVar 3) [x0, x1, .dat f.toS, .cel 0, x4, x5] (muC A) = some (rgC A.length, gdN 0 (rgC A.length), muC A) := by
    unfold mItN
    have e1 : mVar 3 [x0, x1, .dat f.toS, .cel 0, x4, x5] (muC A) = some (.cel 0, muC A) := rfl
    rw [e1]
    dsimp only
    rw [muC_0, nOf_hdC]
  have gd : gdN 0 (rgC A.length) (muC A) = true := by
    unfold gdN
    rw [muC_0, nOf_hdC]
    exact beqEls_refl _
  have go : ∀ (P B : List (List Int)), P ++ B = A → lcLoopE (gdN 0 (rgC A.length)) 5 mYes M_chains_e5 [x0, x1, .dat f.toS, .cel 0, x4, .no] ((List.range' P.length B.length).map fun i => El.c (i + 1)) (P.map fun c => .tup (c.map D.int)) (muC A) = some (A.map fun c => .tup (c.map D.int), muC A) := by
    intro P B
    induction B generalizing P with
    | nil =>
      intro e
      rw [List.append_nil] at e
      subst e
      simp [lcLoopE, gd]
    | cons b B ih =>
      intro e
      have lp : P.length < 100000 := by
        have := congrArg List.length e
        simp at this
        omega
      have e2 := ih (P ++ [b]) (by rw [← e]; simp)
      rw [List.length_cons, List.range'_succ, List.map_cons]
      unfold lcLoopE
      rw [if_pos gd]
      have c1 : M_chains_e5 ([x0, x1, R.dat f.toS, R.cel 0, x4, R.no].set 5 (elR (.c (P.length + 1)))) (muC A) = some (.dat (.tup (b.map D.int)), muC A) := by
        refine cb_eq (rs := [.cel (P.length + 1)]) rfl ?_
        have : (muC A)[P.length + 1]? = some (.l (b.map D.int)) := by rw [← e]; exact muC_s P b B
        simp [fTuple, this]
      dsimp only [mYes]
      rw [c1]
      dsimp only [toD]
      rw [if_pos (by simpa using lp)]
      rw [List.length_append, List.length_singleton, List.map_append] at e2
      exact e2
  have := go [] A rfl
  unfold mLcE
  rw [it]
  dsimp only
  rw [show wipeR [x0, x1, R.dat f.toS, R.cel 0, x4, x5] [5] = [x0, x1, R.dat f.toS, R.cel 0, x4, R.no] from rfl]
  rw [show rgC A.length = (List.range' ([] : List (List Int)).length A.length).map (fun i => El.c (i + 1)) by unfold rgC; rw [List.range_eq_range']; rfl]
  rw [show rgC A.length = (List.range' ([] : List (List Int)).length A.length).map (fun i => El.c (i + 1)) by unfold rgC; rw [List.range_eq_range']; rfl] at this
  rw [show (([] : List (List Int)).map fun c => D.tup (c.map D.int)) = [] from rfl] at this
  rw [this]
theorem chains_ok {k : Bool} {ns : List Int} (hn : NearOk nr f) (N : Nr f.nb) (so : M_slack_of [.dat d] [] = some (.dat f.toS, [])) (hl : ns.length ≤ 100) : ∃ C, Ch f.nb (isort ns) C ∧ M_chains nr [.dat (sqD k (ns.map D.int)), .dat d] [] = some (.dat (.tup (C.map fun c => .tup (c.map D.int))), []) := by
  have as := asc_sort stepA (k := k) (ns := ns) (by omega)
  have hs := isort_sorted ns
  have sl := isort_len ns
  have key : wF (M_chains nr) [.dat (sqD k (ns.map D.int)), .dat d] [] fun r μ => ∃ C, Ch f.nb (isort ns) C ∧ r = .dat (.tup (C.map fun c => .tup (c.map D.int))) ∧ μ = [] := by
    unfold M_chains
    refine fn_wp rfl ?_
    dsimp only [List.cons_append, List.nil_append, List.reduceReplicate, Nat.reduceSub]
    bv_omega
    refine wL_inv (w := D.int) (fun rest δ μ => ∃ p A x4, δ = [.dat (sqD k (ns.map D.int)), .dat d, .dat f.toS, .cel 0, x4, .no] ∧ μ = muC A ∧ Ch f.nb p A ∧ p ++ rest = isort ns) ⟨[], [], _, rfl, rfl, Ch.nil _, rfl⟩ ?_ ?_
    · rintro v rest δ μ ⟨p, A, x4, rfl, rfl, hc, e⟩
      refine ⟨rfl, _, rfl, ?_⟩
      have sp : (p ++ [v]).Pairwise (· ≤ ·) := by
        rw [← e, show p ++ v :: rest = (p ++ [v]) ++ rest by simp] at hs
        exact (List.pairwise_append.mp hs).1
      have pl : p.length ≤ 1000 := by
        have := congrArg List.length e
        simp at this
        omega
      obtain ⟨B, h1, h2⟩ := ch_body (x0 := .dat (sqD k (ns.map D.int))) (x1 := .dat d) (x5 := .no) hn N hc sp pl
      exact ⟨_, h2, p ++ [v], B, _, rfl, rfl, h1, by rw [← e]; simp⟩
    · rintro δ μ ⟨p, A, x4, rfl, rfl, hc, e⟩
      refine ⟨rfl, ?_⟩
      rw [List.append_nil] at e
      subst e
      have lA : A.length ≤ 1000 := by
        have key : ∀ B : List (List Int), (∀ c ∈ B, c ≠ []) → B.length ≤ B.flatten.length := by
          intro B
          induction B with
          | nil => intro _; simp
          | cons b B ih =>
            intro h
            have h1 := ih fun c hc => h c (List.mem_cons_of_mem _ hc)
            have h2 : 0 < b.length := List.length_pos_iff.mpr (h b List.mem_cons_self)
            rw [List.length_cons, List.flatten_cons, List.length_append]
            omega
        have := key A hc.ne
        rw [hc.flat] at this
        omega
      have l := ch_lc (f := f) (x0 := .dat (sqD k (ns.map D.int))) (x1 := .dat d) (x4 := x4) (x5 := .no) A lA
      bv_omega
      refine wE_of l ?_
      bv_omega
      refine ⟨(_, []), ?_, A, hc, rfl, rfl⟩
      dsimp only [retF, retR]
      rw [lowM_0]
      rfl
  obtain ⟨r, μ, h1, C, h2, rfl, rfl⟩ := key
  exact ⟨C, h2, h1⟩
end
end DL
set_option Elab.async false
set_option linter.all false
set_option maxRecDepth 100000
set_option maxHeartbeats 1000000

namespace DL
open PySem PySem.Spec PyProof.Rows L2
theorem findSome_sorted {β : Type} {g : Int → Option β} {r : β} {x0 : Int} : ∀ {U : List Int}, U.Pairwise (· < ·) → x0 ∈ U → (∀ x ∈ U, x < x0 → g x = none) → g x0 = some r → U.findSome? g = some r
  | [], _, h, _, _ => by cases h
  | u :: U, hp, h, hn, hg => by
    rw [List.findSome?_cons]
    rcases List.mem_cons.mp h with z | z
    · subst z
      rw [hg]
    · have lt := (List.pairwise_cons.mp hp).1 x0 z
      rw [hn u List.mem_cons_self lt]
      exact findSome_sorted (List.pairwise_cons.mp hp).2 z (fun x hx => hn x (List.mem_cons_of_mem _ hx)) hg
theorem head_sorted {x0 : Int} {U : List Int} (hp : U.Pairwise (· < ·)) (h : x0 ∈ U) (hm : ∀ x ∈ U, x0 ≤ x) : U.head? = some x0 := by
  cases U with
  | nil => cases h
  | cons u U =>
    rcases List.mem_cons.mp h with z | z
    · rw [z]
      rfl
    · have lt := (List.pairwise_cons.mp hp).1 x0 z
      have := hm u List.mem_cons_self
      omega
def dueIn (nb : Int → Int → Bool) (U : List Int) (one : Int) : Option (Int × Int × Int) := (U.filter (nb one)).findSome? fun mate => (U.filter fun own => nb mate own && !nb one own).head?.map fun far => (one, mate, far)
def dueL (nb : Int → Int → Bool) (U : List Int) : Option (Int × Int × Int) := U.findSome? (dueIn nb U)
def tornC (nb : Int → Int → Bool) (c : List Int) : Option (Int × Int × Int) := match c with
  | [] => none
  | h :: t => match (h :: t).filter (fun v => !nb h v) with
    | [] => none
    | far :: _ => match (h :: t).filter (fun v => nb v far) with
      | [] => none
      | mid :: _ => some (h, mid, far)
section
variable {nb : Int → Int → Bool} {S U : List Int} {C : List (List Int)}
theorem same_chain (N : Nr nb) (h : Ch nb S C) {c : List Int} {x y : Int} (hc : c ∈ C) (hx : x ∈ c) (hy : y ∈ S) (hn : nb x y = true) : y ∈ c := by
  rw [← h.flat] at hy
  obtain ⟨c', hc', hy'⟩ := List.mem_flatten.mp hy
  obtain ⟨i, hi, rfl⟩ := List.mem_iff_getElem.mp hc
  obtain ⟨j, hj, rfl⟩ := List.mem_iff_getElem.mp hc'
  have P := List.pairwise_iff_getElem.mp h.sep
  rcases Nat.lt_trichotomy i j with z | z | z
  · rw [P i j hi hj z x hx y hy'] at hn
    cases hn
  · subst z
    exact hy'
  · have := P j i hj hi z y hy' x hx
    rw [N.symm, this] at hn
    cases hn
theorem due_none (N : Nr nb) (h : Ch nb S C) (hU : ∀ x, x ∈ U ↔ x ∈ S) {c : List Int} (hc : c ∈ C) (hs : c.Pairwise (· ≤ ·)) (ht : tornC nb c = none) {one : Int} (ho : one ∈ c) : dueIn nb U one = none := by
  have all : ∀ v ∈ c, ∀ w ∈ c, nb v w = true := by
    cases c with
    | nil => cases ho
    | cons h0 t =>
      have hh : ∀ v ∈ h0 :: t, nb h0 v = true := by
        unfold tornC at ht
        dsimp only at ht
        split at ht
        · rename_i e
          intro v hv
          cases q : nb h0 v with
          | true => rfl
          | false =>
            have : v ∈ (h0 :: t).filter (fun v => !nb h0 v) := List.mem_filter.mpr ⟨hv, by rw [q]; rfl⟩
            rw [e] at this
            cases this
        · rename_i far r e
          split at ht
          · rename_i e2
            have hf : far ∈ h0 :: t := by
              have : far ∈ (h0 :: t).filter (fun v => !nb h0 v) := by rw [e]; exact List.mem_cons_self
              exact (List.mem_filter.mp this).1
            have : far ∈ (h0 :: t).filter (fun v => nb v far) := List.mem_filter.mpr ⟨hf, N.refl far⟩
            rw [e2] at this
            cases this
          · cases ht
      have le : ∀ v ∈ h0 :: t, h0 ≤ v := by
        intro v hv
        rcases List.mem_cons.mp hv with z | z
        · omega
        · exact (List.pairwise_cons.mp hs).1 v z
      intro v hv w hw
      rcases Int.le_total v w with z | z
      · exact N.hi (le v hv) z (hh w hw)
      · rw [N.symm]
        exact N.hi (le w hw) z (hh v hv)
  unfold dueIn
  rw [List.findSome?_eq_none_iff]
  intro mate hm
  obtain ⟨m1, m2⟩ := List.mem_filter.mp hm
  have mc : mate ∈ c := same_chain N h hc ho ((hU _).mp m1) m2
  have e : (U.filter fun own => nb mate own && !nb one own) = [] := by
    rw [List.filter_eq_nil_iff]
    intro own hown z
    obtain ⟨z1, z2⟩ := Bool.and_eq_true_iff.mp z
    have oc : own ∈ c := same_chain N h hc mc ((hU _).mp hown) z1
    rw [all one ho own oc] at z2
    cases z2
  rw [e]
  rfl
theorem sub_sorted (hS : S.Pairwise (· ≤ ·)) (h : Ch nb S C) {c : List Int} (hc : c ∈ C) : c.Pairwise (· ≤ ·) := by
  obtain ⟨A, B, rfl⟩ := List.append_of_mem hc
  rw [← h.flat] at hS
  simp only [List.flatten_append, List.flatten_cons] at hS
  exact (List.pairwise_append.mp (List.pairwise_append.mp hS).2.1).1
theorem torn_due (N : Nr nb) (h : Ch nb S C) (hS : S.Pairwise (· ≤ ·)) (hU : ∀ x, x ∈ U ↔ x ∈ S) (hp : U.Pairwise (· < ·)) : C.findSome? (tornC nb) = dueL nb U := by
  cases e : C.findSome? (tornC nb) with
  | none =>
    symm
    unfold dueL
    rw [List.findSome?_eq_none_iff]
    intro one ho
    have oS := (hU one).mp ho
    rw [← h.flat] at oS
    obtain ⟨c, hc, hoc⟩ := List.mem_flatten.mp oS
    exact due_none N h hU hc (sub_sorted hS h hc) (List.findSome?_eq_none_iff.mp e c hc) hoc
  | some r =>
    symm
    obtain ⟨C1, c, C2, e1, e2, e3⟩ := List.findSome?_eq_some_iff.mp e
    have hc : c ∈ C := by rw [e1]; simp
    have cs := sub_sorted hS h hc
    cases c with
    | nil => cases e2
    | cons h0 t =>
      unfold tornC at e2
      dsimp only at e2
      split at e2
      · cases e2
      rename_i far r1 f1
      split at e2
      · cases e2
      rename_i mid r2 f2
      cases e2
      obtain ⟨P, R, p1, p2, p3, _⟩ := List.filter_eq_cons_iff.mp f1
      obtain ⟨P2, R2, q1, q2, q3, _⟩ := List.filter_eq_cons_iff.mp f2
      have le : ∀ v ∈ h0 :: t, h0 ≤ v := by
        intro v hv
        rcases List.mem_cons.mp hv with z | z
        · omega
        · exact (List.pairwise_cons.mp cs).1 v z
      have far_n : nb h0 far = false := by
        cases z : nb h0 far with
        | false => rfl
        | true =>
          rw [z] at p3
          cases p3
      have far_c : far ∈ h0 :: t := by rw [p1]; simp
      have mid_c : mid ∈ h0 :: t := by rw [q1]; simp
      have far_le : ∀ v ∈ h0 :: t, nb h0 v = false → far ≤ v := by
        intro v hv hn
        rw [p1] at hv cs
        rcases List.mem_append.mp hv with z | z
        · exact absurd (by rw [hn]; rfl) (p2 v z)
        · rcases List.mem_cons.mp z with z | z
          · omega
          · exact (List.pairwise_cons.mp (List.pairwise_append.mp cs).2.1).1 v z
      have mid_le : ∀ v ∈ h0 :: t, nb v far = true → mid ≤ v := by
        intro v hv hn
        rw [q1] at hv cs
        rcases List.mem_append.mp hv with z | z
        · exact absurd hn (q2 v z)
        · rcases List.mem_cons.mp z with z | z
          · omega
          · exact (List.pairwise_cons.mp (List.pairwise_append.mp cs).2.1).1 v z
      obtain ⟨a, ha, hah, haf, hal⟩ : ∃ a, a ∈ h0 :: t ∧ nb h0 a = true ∧ nb a far = true ∧ a ≤ far := by
        rcases List.eq_nil_or_concat P with z | ⟨P', a, z⟩
        · subst z
          simp at p1
          rw [← p1.1, N.refl] at far_n
          cases far_n
        · rw [List.concat_eq_append] at z
          subst z
          have hmem : a ∈ h0 :: t := by rw [p1]; simp
          refine ⟨a, hmem, ?_, ?_, ?_⟩
          · have := p2 a (by simp)
            cases q : nb h0 a with
            | true => rfl
            | false => exact absurd (by rw [q]; rfl) this
          · exact h.link _ hc P' a far R (by rw [p1]; simp)
          · rw [p1] at cs
            exact (List.pairwise_append.mp cs).2.2 a (by simp) far List.mem_cons_self
      have mid_a := mid_le a ha haf
      have mid_h : nb h0 mid = true := N.lo (le mid mid_c) mid_a hah
      have inS : ∀ v ∈ h0 :: t, v ∈ U := fun v hv => (hU v).mpr (by rw [← h.flat]; exact List.mem_flatten.mpr ⟨_, hc, hv⟩)
      unfold dueL
      refine findSome_sorted hp (inS h0 List.mem_cons_self) (fun one ho hlt => ?_) ?_
      · have oS := (hU one).mp ho
        rw [← h.flat] at oS
        obtain ⟨c', hc', hoc⟩ := List.mem_flatten.mp oS
        have hin : c' ∈ C1 := by
          rw [e1] at hc'
          rcases List.mem_append.mp hc' with z | z
          · exact z
          · exfalso
            have ge : h0 ≤ one := by
              rcases List.mem_cons.mp z with z | z
              · rw [z] at hoc
                exact le one hoc
              · have hS' := hS
                rw [← h.flat, e1] at hS'
                simp only [List.flatten_append, List.flatten_cons] at hS'
                exact (List.pairwise_append.mp (List.pairwise_append.mp hS').2.1).2.2 h0 List.mem_cons_self one (List.mem_flatten.mpr ⟨c', z, hoc⟩)
            omega
        exact due_none N h hU hc' (sub_sorted hS h hc') (e3 c' hin) hoc
      · unfold dueIn
        refine findSome_sorted (hp.filter _) (List.mem_filter.mpr ⟨inS mid mid_c, mid_h⟩) (fun mate hm hlt => ?_) ?_
        · obtain ⟨m1, m2⟩ := List.mem_filter.mp hm
          have mc : mate ∈ h0 :: t := same_chain N h hc List.mem_cons_self ((hU _).mp m1) m2
          have e : (U.filter fun own => nb mate own && !nb h0 own) = [] := by
            rw [List.filter_eq_nil_iff]
            intro own hown z
            obtain ⟨z1, z2⟩ := Bool.and_eq_true_iff.mp z
            have oc : own ∈ h0 :: t := same_chain N h hc mc ((hU _).mp hown) z1
            have fo := far_le own oc (by
              cases q : nb h0 own with
              | false => rfl
              | true =>
                rw [q] at z2
                cases z2)
            have := mid_le mate mc (N.lo (by omega) fo z1)
            omega
          rw [e]
          rfl
        · have hf : far ∈ U.filter fun own => nb mid own && !nb h0 own := List.mem_filter.mpr ⟨inS far far_c, by rw [q3, far_n]; rfl⟩
          rw [head_sorted (hp.filter _) hf fun own hown => ?_]
          · rfl
          · obtain ⟨o1, o2⟩ := List.mem_filter.mp hown
            obtain ⟨z1, z2⟩ := Bool.and_eq_true_iff.mp o2
            have oc : own ∈ h0 :: t := same_chain N h hc mid_c ((hU _).mp o1) z1
            exact far_le own oc (by
              cases q : nb h0 own with
              | false => rfl
              | true =>
                rw [q] at z2
                cases z2)
/-- none exactly if near carries over -/
theorem due_iff (N : Nr nb) : dueL nb U = none ↔ ∀ a ∈ U, ∀ b ∈ U, ∀ c ∈ U, nb a b = true → nb b c = true → nb a c = true := by
  unfold dueL
  rw [List.findSome?_eq_none_iff]
  constructor
  · intro h a ha b hb c hc h1 h2
    have h3 := h a ha
    unfold dueIn at h3
    rw [List.findSome?_eq_none_iff] at h3
    have h4 := h3 b (List.mem_filter.mpr ⟨hb, h1⟩)
    cases q : nb a c with
    | true => rfl
    | false =>
      have : c ∈ U.filter fun own => nb b own && !nb a own := List.mem_filter.mpr ⟨hc, by rw [h2, q]; rfl⟩
      cases e : U.filter (fun own => nb b own && !nb a own) with
      | nil =>
        rw [e] at this
        cases this
      | cons x r =>
        rw [e] at h4
        cases h4
  · intro h one ho
    unfold dueIn
    rw [List.findSome?_eq_none_iff]
    intro mate hm
    obtain ⟨m1, m2⟩ := List.mem_filter.mp hm
    have e : (U.filter fun own => nb mate own && !nb one own) = [] := by
      rw [List.filter_eq_nil_iff]
      intro own hown z
      obtain ⟨z1, z2⟩ := Bool.and_eq_true_iff.mp z
      rw [h one ho mate m1 own hown m2 z1] at z2
      cases z2
    rw [e]
    rfl
end
end DL
set_option Elab.async false
set_option linter.all false
set_option maxRecDepth 100000
set_option maxHeartbeats 1000000
local macro_rules | `(tactic| bv_omega) => `(tactic| first
  | (with_reducible refine DL.fn_of rfl ?_; dsimp only [List.cons_append, List.nil_append, List.reduceReplicate, Nat.reduceSub]; bv_omega)
  | (with_reducible refine DL.wS_seq ?_; bv_omega)
  | (with_reducible refine DL.sqK_nx ?_; bv_omega)
  | (with_reducible refine DL.sqK_rt ?_; bv_omega)
  | (with_reducible refine DL.wS_ret ?_; bv_omega)
  | (with_reducible refine DL.wS_if ?_; bv_omega)
  | (with_reducible refine DL.wS_set ?_; bv_omega)
  | (with_reducible refine DL.wS_setC ?_; bv_omega)
  | (with_reducible refine DL.wS_par ?_; bv_omega)
  | (with_reducible refine DL.wS_par3 ?_; bv_omega)
  | (with_reducible refine DL.wS_asg ?_; bv_omega)
  | (with_reducible refine DL.wS_drop ?_; bv_omega)
  | (with_reducible refine DL.wS_for ?_; bv_omega)
  | (with_reducible refine DL.wS_nx ?_; bv_omega)
  | (with_reducible refine DL.wS_bk ?_; bv_omega)
  | (with_reducible refine DL.wS_ct ?_; bv_omega)
  | (with_reducible refine DL.stK_dat ?_; try dsimp only [List.set_cons_zero, List.set_cons_succ]; bv_omega)
  | (with_reducible refine DL.stK_fr ?_; try dsimp only [List.set_cons_zero, List.set_cons_succ]; bv_omega)
  | (with_reducible refine DL.stK_cel ?_; try dsimp only [List.set_cons_zero, List.set_cons_succ]; bv_omega)
  | (with_reducible refine DL.stK_new ?_; try dsimp only [List.set_cons_zero, List.set_cons_succ, List.length_cons, List.length_nil, List.cons_append, List.nil_append, Nat.zero_add, Nat.reduceAdd]; bv_omega)
  | (with_reducible refine DL.wE_var ?_; (first | refine DL.vK_dat rfl ?_ | refine DL.vK_cel rfl ?_); bv_omega)
  | (with_reducible refine DL.wE_c ?_; bv_omega)
  | (with_reducible refine DL.wE_op ?_; bv_omega)
  | (with_reducible refine DL.wE_un ?_; bv_omega)
  | (with_reducible refine DL.wE_not ?_; bv_omega)
  | (with_reducible refine DL.wE_if ?_; bv_omega)
  | (with_reducible refine DL.wE_or ?_; bv_omega)
  | (with_reducible refine DL.wE_and ?_; bv_omega)
  | (with_reducible refine DL.wE_tup ?_; bv_omega)
  | (with_reducible refine DL.wE_lst ?_; bv_omega)
  | (with_reducible refine DL.wE_cb ?_; bv_omega)
  | (with_reducible refine DL.wE_call ?_; bv_omega)
  | (with_reducible refine DL.wE_callK ?_; bv_omega)
  | (with_reducible refine DL.wE_meth ?_; bv_omega)
  | (with_reducible refine DL.wE_methK ?_; bv_omega)
  | (with_reducible refine DL.wE_lc ?_; bv_omega)
  | (with_reducible refine DL.wE_bm ?_; bv_omega)
  | (with_reducible refine DL.wT_b ?_; bv_omega)
  | (with_reducible refine DL.wT_not ?_; bv_omega)
  | (with_reducible refine DL.wT_and ?_; bv_omega)
  | (with_reducible refine DL.wT_or ?_; bv_omega)
  | (with_reducible refine DL.wA_nil ?_; bv_omega)
  | (with_reducible refine DL.wA_cons ?_; bv_omega)
  | (with_reducible refine DL.aK_dat ?_; bv_omega)
  | (with_reducible refine DL.aK_fr ?_; bv_omega)
  | (with_reducible refine DL.aK_cel ?_; bv_omega)
  | (with_reducible refine DL.bK_bl ?_; bv_omega)
  | (with_reducible refine DL.dK_dat ?_; bv_omega)
  | (with_reducible refine DL.dK_fr ?_; bv_omega)
  | (with_reducible refine DL.cnd_true ?_; bv_omega)
  | (with_reducible refine DL.cnd_false ?_; bv_omega)
  | (with_reducible refine DL.cnd_not ?_; bv_omega)
  | (with_reducible refine DL.cnd_pos (by assumption) ?_; bv_omega)
  | (with_reducible refine DL.cnd_neg (by assumption) ?_; bv_omega)
  | (with_reducible refine DL.wI_it ?_; bv_omega)
  | (with_reducible refine DL.wI_r1 ?_; bv_omega)
  | (with_reducible refine DL.wI_r2 ?_; bv_omega)
  | (with_reducible refine DL.itK_lst ?_; bv_omega)
  | (with_reducible refine DL.itK_fr ?_; bv_omega)
  | (with_reducible refine DL.itK_tup ?_; bv_omega)
  | (with_reducible refine DL.itK_sq ?_; bv_omega)
  | (with_reducible refine DL.op_sub' ?_; bv_omega)
  | (with_reducible refine DL.op_add' ?_; bv_omega)
  | (with_reducible refine DL.op_lt' ?_; bv_omega)
  | (with_reducible refine DL.op_ltI' ?_; bv_omega)
  | (with_reducible refine DL.op_le' ?_; bv_omega)
  | (with_reducible refine DL.op_gt' ?_; bv_omega)
  | (with_reducible refine DL.op_ge' ?_; bv_omega)
  | (with_reducible refine DL.op_eqi' ?_; bv_omega)
  | (with_reducible refine DL.op_nei' ?_; bv_omega)
  | (with_reducible refine DL.op_eqb' ?_; bv_omega)
  | (with_reducible refine DL.op_neb' ?_; bv_omega)
  | (with_reducible refine DL.cb_len_lst ?_; bv_omega)
  | (with_reducible refine DL.cb_len_tup ?_; bv_omega)
  | (with_reducible refine DL.cb_len_sq ?_; bv_omega)
  | (with_reducible refine DL.cb_tuple ?_; bv_omega)
  | (with_reducible refine DL.cb_list ?_; bv_omega)
  | (with_reducible refine DL.cb_listT ?_; bv_omega)
  | (with_reducible refine DL.cb_abs ?_; bv_omega)
  | (with_reducible refine DL.cb_int ?_; bv_omega)
  | (with_reducible refine DL.cb_all ?_; bv_omega)
  | (with_reducible refine DL.cb_sorted ?_; bv_omega)
  | (refine DL.oK_some (o := DL.allD _) rfl ⟨Nat.le_of_ble_eq_true rfl, ?_⟩; bv_omega)
  | (refine ⟨_, rfl, ?_⟩; bv_omega)
  | (refine ⟨DL.isIns_toS _, ?_⟩; bv_omega)
  | (refine ⟨⟨rfl, rfl⟩, ?_⟩; bv_omega)
  | (with_reducible refine DL.wF_0 (by assumption) rfl rfl ?_; bv_omega)
  | (with_reducible refine DL.wF_box (by assumption) rfl rfl rfl ?_; try dsimp only [List.set_cons_zero, List.set_cons_succ]; bv_omega)
  | (refine DL.wF_0 (by apply_assumption) rfl rfl ?_; bv_omega)
  | skip)

namespace DL
open PySem PySem.Spec PyProof.Rows L2
@[reducible] def M_numbers_0 : MS := (mSetC 1 (mLst mNil))
@[reducible] def M_numbers_e1 : ME := (mCb fInt (mCons (mVar 3) mNil))
@[reducible] def M_numbers_2 : MS := (mDrop (mBm fAppend (mVar 1) (mCons (mVar 2) mNil)))
@[reducible] def M_numbers_3 : MS := (mIfS (mB (mOp (fIn true) (mVar 2) (mVar 1))) M_numbers_2 mNx)
@[reducible] def M_numbers_4 : MS := (mFor (mIt (mCb fSorted (mCons (mLc (mIt (mVar 0)) (tgName 3) mYes M_numbers_e1 [3]) mNil))) (tgName 2) M_numbers_3)
@[reducible] def M_numbers_5 : MS := (mRet (mVar 1))
def M_numbers : MF := mDef 1 4
  (mSeq M_numbers_0
  (mSeq M_numbers_4
  M_numbers_5))
theorem in_cel {i : Int} {ns : List Int} {neg : Bool} {μ : Mu} {n : Nat} {K : R → Prop} (h : μ[n]? = some (.l (ns.map D.int))) (q : K (.dat (.bl (xor neg (decide (i ∈ ns)))))) : oK (fIn neg (.dat (.int i)) (.cel n) μ) K := by
  refine ⟨_, ?_, q⟩
  rw [← in_ints (k := false) (μ := μ)]
  have e : sqOf (.cel n) μ = sqOf (.dat (sqD false (ns.map D.int))) μ := by
    show (lstOf (.cel n) μ).map Sq.l = some (.l (ns.map D.int))
    have : lstOf (.cel n) μ = some (ns.map D.int) := by
      unfold lstOf
      dsimp only
      rw [h]
    rw [this]
    rfl
  unfold fIn
  dsimp only
  rw [e]
theorem numbers_ok {k : Bool} {ns : List Int} (hl : ns.length ≤ 1000) : ∃ U : List Int, U.Pairwise (· < ·) ∧ (∀ x, x ∈ U ↔ x ∈ ns) ∧ U.length ≤ ns.length ∧ M_numbers [.dat (sqD k (ns.map D.int))] [] = some (.fr (U.map D.int), []) := by
  have hs := isort_sorted ns
  have sl := isort_len ns
  have key : wF M_numbers [.dat (sqD k (ns.map D.int))] [] fun r μ => ∃ U : List Int, U.Pairwise (· < ·) ∧ (∀ x, x ∈ U ↔ x ∈ ns) ∧ U.length ≤ ns.length ∧ r = .fr (U.map D.int) ∧ μ = [] := by
    unfold M_numbers
    refine fn_wp rfl ?_
    dsimp only [List.cons_append, List.nil_append, List.reduceReplicate, Nat.reduceSub]
    bv_omega
    refine wLc_map (w := D.int) (g := D.int) rfl (by omega) (fun x hx => ⟨_, rfl, ?_⟩) ?_
    · bv_omega
      exact ⟨rfl, rfl⟩
    bv_omega
    refine wL_inv (w := D.int) (fun rest δ μ => ∃ p U x2, δ = [.dat (sqD k (ns.map D.int)), .cel 0, x2, .no] ∧ μ = [.l (U.map D.int)] ∧ U.Pairwise (· < ·) ∧ (∀ x, x ∈ U ↔ x ∈ p) ∧ U.length ≤ p.length ∧ p ++ rest = isort ns) ⟨[], [], _, rfl, rfl, .nil, by simp, by simp, rfl⟩ ?_ ?_
    · rintro v rest δ μ ⟨p, U, x2, rfl, rfl, h1, h2, h3, e⟩
      refine ⟨rfl, _, rfl, ?_⟩
      dsimp only [List.set_cons_zero, List.set_cons_succ]
      have sp : ∀ y ∈ p, y ≤ v := by
        rw [← e] at hs
        exact fun y hy => (List.pairwise_append.mp hs).2.2 y hy v List.mem_cons_self
      have pl : p.length < 1000 := by
        have := congrArg List.length e
        simp at this
        omega
      bv_omega
      refine in_cel rfl ?_
      bv_omega
      refine ⟨fun z => ?_, fun z => ?_⟩
      · have nv : v ∉ U := by simpa using z
        bv_omega
        refine ⟨rfl, ?_⟩
        bv_omega
        refine oK_append rfl (by simp; omega) ?_
        refine ⟨p ++ [v], U ++ [v], _, rfl, by simp, ?_, ?_, by simp; omega, by rw [← e]; simp⟩
        · rw [List.pairwise_append]
          refine ⟨h1, List.pairwise_singleton _ _, fun x hx y hy => ?_⟩
          rw [List.mem_singleton.mp hy]
          have a1 := sp x ((h2 x).mp hx)
          have a2 : x ≠ v := fun w => nv (w ▸ hx)
          omega
        · intro x
          simp only [List.mem_append, List.mem_singleton]
          rw [h2]
      · have nv : v ∈ U := by simpa using z
        bv_omega
        refine ⟨p ++ [v], U, _, rfl, rfl, h1, fun x => ?_, by simp; omega, by rw [← e]; simp⟩
        simp only [List.mem_append, List.mem_singleton]
        rw [h2]
        refine ⟨.inl, fun w => w.elim id fun w => ?_⟩
        rw [w]
        exact (h2 v).mp nv
    · rintro δ μ ⟨p, U, x2, rfl, rfl, h1, h2, h3, e⟩
      refine ⟨rfl, ?_⟩
      rw [List.append_nil] at e
      subst e
      bv_omega
      refine ⟨(_, []), rfl, U, h1, fun x => ?_, by omega, rfl, rfl⟩
      rw [h2]
      exact (isort_perm ns).mem_iff
  obtain ⟨r, μ, h1, U, h2, h3, h4, rfl, rfl⟩ := key
  exact ⟨U, h2, h3, h4, h1⟩
end DL
set_option Elab.async false
set_option linter.all false
set_option maxRecDepth 100000
set_option maxHeartbeats 1000000

namespace DL
open PySem L2
section
variable {m mo : ME} {ms : MA} {δ : Sl} {μ : Mu} {Q : R → Mu → Prop} {QA : List R → Mu → Prop} {QS : Flo → Prop} {f : MF} {i : Nat} {K : R → Prop}
theorem wA_nilV (h : QA [] μ) : wA mNilV δ μ QA := ⟨_, _, rfl, h⟩
theorem wA_consV (h : wE m δ μ fun r μ' => wA ms δ μ' fun rs μ2 => QA (r :: rs) μ2) : wA (mConsV m ms) δ μ QA := by
  obtain ⟨r, μ', h1, rs, μ2, h2, h3⟩ := h
  exact ⟨_, μ2, by simp only [mConsV, h1, h2], h3⟩
theorem wE_callW {ds : List D} (h : wA ms δ μ fun rs μ' => oK (vwRs μ' rs) fun ds => ∃ r, f (ds.map R.dat) [] = some (r, []) ∧ lfR r = true ∧ Q r μ') : wE (mCallW f ms) δ μ Q := by
  obtain ⟨rs, μ', h1, ds, h2, r, h3, h4, h5⟩ := h
  exact ⟨r, μ', by simp only [mCallW, h1, h2, h3, h4, if_true], h5⟩
theorem wS_setN (h : wA ms δ μ fun rs μ' => oK (nestOf rs μ'.length) fun z => z.1.length ≤ 100000 ∧ QS (.nx (δ.set i (.cel (μ' ++ z.2).length)) (μ' ++ z.2 ++ [Cel.n z.1]))) : wS (mSetN i ms) δ μ QS := by
  obtain ⟨rs, μ', h1, z, h2, h3, h4⟩ := h
  exact ⟨_, by simp only [mSetN, h1, h2, h3, if_true], h4⟩
def atK (c i : Nat) (r : R) (k : D → Prop) : Prop := ∃ xs d, r = .dat (.ins c xs) ∧ xs[i]? = some d ∧ k d
theorem atK_ins {c : Nat} {xs : List D} {d : D} {k : D → Prop} (h : xs[i]? = some d) (q : k d) : atK c i (.dat (.ins c xs)) k := ⟨xs, d, rfl, h, q⟩
theorem wE_at {c : Nat} (h : wE m δ μ fun r μ' => atK c i r fun d => Q (.dat d) μ') : wE (mAttr c i m) δ μ Q := by
  obtain ⟨r, μ', h1, xs, d, rfl, h2, h3⟩ := h
  exact ⟨_, μ', by simp only [mAttr, h1, if_true, h2], h3⟩
theorem tr_bl {b : Bool} {k : Bool → Prop} (h : k b) : oK (truR (.dat (.bl b)) μ) k := ⟨_, rfl, h⟩
theorem wE_make {c : Nat} {mi : MIn} (h : wA ms δ μ fun rs μ' => ∃ z, mi rs μ' = some z ∧ Q (.dat (.ins c z.1)) z.2) : wE (mMake c mi ms) δ μ Q := by
  obtain ⟨rs, μ', h1, z, h2, h3⟩ := h
  exact ⟨_, _, by simp only [mMake, h1, h2], h3⟩
theorem any_bl {β : Type} (l : List β) (p : β → Bool) : fAny [.dat (.lst (l.map fun x => .bl (p x)))] μ = some (.dat (.bl (l.any p))) := by
  have : blsOf (l.map fun x => D.bl (p x)) = some (l.map p) := by
    induction l with
    | nil => rfl
    | cons a l ih => simp [blsOf, ih]
  simp [fAny, this, List.any_map, Function.comp_def]
theorem cb_any {β : Type} {l : List β} {p : β → Bool} (h : K (.dat (.bl (l.any p)))) : oK (fAny [.dat (.lst (l.map fun x => .bl (p x)))] μ) K := ⟨_, any_bl l p, h⟩
theorem op_eqs {a b : Str} (h : K (.dat (.bl (decide (a = b))))) : oK (fEq false (.dat (.str a)) (.dat (.str b)) μ) K := ⟨_, by simp [fEq], h⟩
theorem ix0_tup {x : D} {xs : List D} (h : K (.dat x)) : oK (fIx (.dat (.tup (x :: xs))) (.dat (.int 0)) μ) K := ⟨_, by simp [fIx, atI, ixN], h⟩
theorem atI_nat {β : Type} {xs : List β} {n : Nat} (h : n < xs.length) : atI xs (n : Int) = some xs[n] := by
  unfold atI ixN
  rw [if_pos (by omega), if_pos (by omega)]
  simp [h]
theorem ix1_tup {x y : D} {xs : List D} (h : K (.dat y)) : oK (fIx (.dat (.tup (x :: y :: xs))) (.dat (.int 1)) μ) K := by
  refine ⟨_, ?_, h⟩
  unfold fIx
  dsimp only [sqOf, Sq.all]
  rw [show (1 : Int) = ((1 : Nat) : Int) from rfl, atI_nat (by simp)]
  rfl
theorem ix2_tup {x y z : D} {xs : List D} (h : K (.dat z)) : oK (fIx (.dat (.tup (x :: y :: z :: xs))) (.dat (.int 2)) μ) K := by
  refine ⟨_, ?_, h⟩
  unfold fIx
  dsimp only [sqOf, Sq.all]
  rw [show (2 : Int) = ((2 : Nat) : Int) from rfl, atI_nat (by simp)]
  rfl
theorem ix0_fr {x : D} {xs : List D} (h : K (.dat x)) : oK (fIx (.fr (x :: xs)) (.dat (.int 0)) μ) K := ⟨_, by simp [fIx, atI, ixN], h⟩
theorem ix0_lst {x : D} {xs : List D} (h : K (.dat x)) : oK (fIx (.dat (.lst (x :: xs))) (.dat (.int 0)) μ) K := ⟨_, by simp [fIx, atI, ixN], h⟩
theorem nil_eq {neg : Bool} {ns : List Int} (h : K (.dat (.bl (xor neg ns.isEmpty)))) : oK (fEq neg (.fr (ns.map D.int)) (.fr []) μ) K := ⟨_, eq_nil neg ns μ, h⟩
theorem nil_eqL {neg : Bool} {ns : List Int} (h : K (.dat (.bl (xor neg ns.isEmpty)))) : oK (fEq neg (.dat (.lst (ns.map D.int))) (.fr []) μ) K := by
  refine ⟨_, ?_, h⟩
  rw [← eq_nil neg ns μ]
  have e : rPy (.dat (.lst (ns.map D.int))) μ = rPy (.fr (ns.map D.int)) μ := by simp [rPy, toPy]
  cases ns with
  | nil => rfl
  | cons a ns =>
    unfold fEq
    dsimp only
    rw [e]
theorem eq_same {neg : Bool} {ns : List Int} (h : K (.dat (.bl (!neg)))) : oK (fEq neg (.dat (.lst (ns.map D.int))) (.fr (ns.map D.int)) μ) K := by
  refine ⟨_, ?_, h⟩
  rw [show fEq neg (.dat (.lst (ns.map D.int))) (.fr (ns.map D.int)) = fEq neg (.dat (.lst (ns.map D.int))) (.dat (.lst (ns.map D.int))) from rfl, eq_ints, decide_eq_true rfl, Bool.xor_true]
end
theorem T_ints {k : Bool} {ns : List Int} {j : Nat} (hl : ns.length ≤ 1000) : T_ (j + 2) [.dat (sqD k (ns.map D.int))] [] = some (.dat (.tup (ns.map D.int)), []) := by
  cases k
  · exact tup_lst j ns hl
  · exact tup_ints j ns hl
end DL
set_option Elab.async false
set_option linter.all false
set_option maxRecDepth 100000
set_option maxHeartbeats 1000000
local macro_rules | `(tactic| bv_omega) => `(tactic| first
  | (with_reducible refine DL.fn_of rfl ?_; dsimp only [List.cons_append, List.nil_append, List.reduceReplicate, Nat.reduceSub]; bv_omega)
  | (with_reducible refine DL.wS_seq ?_; bv_omega)
  | (with_reducible refine DL.sqK_nx ?_; bv_omega)
  | (with_reducible refine DL.sqK_rt ?_; bv_omega)
  | (with_reducible refine DL.wS_ret ?_; bv_omega)
  | (with_reducible refine DL.wS_if ?_; bv_omega)
  | (with_reducible refine DL.wS_set ?_; bv_omega)
  | (with_reducible refine DL.wS_setC ?_; bv_omega)
  | (with_reducible refine DL.wS_par ?_; bv_omega)
  | (with_reducible refine DL.wS_par3 ?_; bv_omega)
  | (with_reducible refine DL.wS_asg ?_; bv_omega)
  | (with_reducible refine DL.wS_drop ?_; bv_omega)
  | (with_reducible refine DL.wS_for ?_; bv_omega)
  | (with_reducible refine DL.wS_nx ?_; bv_omega)
  | (with_reducible refine DL.wS_bk ?_; bv_omega)
  | (with_reducible refine DL.wS_ct ?_; bv_omega)
  | (with_reducible refine DL.stK_dat ?_; try dsimp only [List.set_cons_zero, List.set_cons_succ]; bv_omega)
  | (with_reducible refine DL.stK_fr ?_; try dsimp only [List.set_cons_zero, List.set_cons_succ]; bv_omega)
  | (with_reducible refine DL.stK_cel ?_; try dsimp only [List.set_cons_zero, List.set_cons_succ]; bv_omega)
  | (with_reducible refine DL.stK_new ?_; try dsimp only [List.set_cons_zero, List.set_cons_succ, List.length_cons, List.length_nil, List.cons_append, List.nil_append, Nat.zero_add, Nat.reduceAdd]; bv_omega)
  | (with_reducible refine DL.wE_var ?_; (first | refine DL.vK_dat rfl ?_ | refine DL.vK_cel rfl ?_); bv_omega)
  | (with_reducible refine DL.wE_c ?_; bv_omega)
  | (with_reducible refine DL.wE_op ?_; bv_omega)
  | (with_reducible refine DL.wE_un ?_; bv_omega)
  | (with_reducible refine DL.wE_not ?_; bv_omega)
  | (with_reducible refine DL.wE_if ?_; bv_omega)
  | (with_reducible refine DL.wE_or ?_; bv_omega)
  | (with_reducible refine DL.wE_and ?_; bv_omega)
  | (with_reducible refine DL.wE_tup ?_; bv_omega)
  | (with_reducible refine DL.wE_lst ?_; bv_omega)
  | (with_reducible refine DL.wE_cb ?_; bv_omega)
  | (with_reducible refine DL.wE_call ?_; bv_omega)
  | (with_reducible refine DL.wE_callK ?_; bv_omega)
  | (with_reducible refine DL.wE_meth ?_; bv_omega)
  | (with_reducible refine DL.wE_methK ?_; bv_omega)
  | (with_reducible refine DL.wE_lc ?_; bv_omega)
  | (with_reducible refine DL.wE_bm ?_; bv_omega)
  | (with_reducible refine DL.wT_b ?_; bv_omega)
  | (with_reducible refine DL.wT_not ?_; bv_omega)
  | (with_reducible refine DL.wT_and ?_; bv_omega)
  | (with_reducible refine DL.wT_or ?_; bv_omega)
  | (with_reducible refine DL.wA_nil ?_; bv_omega)
  | (with_reducible refine DL.wA_cons ?_; bv_omega)
  | (with_reducible refine DL.aK_dat ?_; bv_omega)
  | (with_reducible refine DL.aK_fr ?_; bv_omega)
  | (with_reducible refine DL.aK_cel ?_; bv_omega)
  | (with_reducible refine DL.bK_bl ?_; bv_omega)
  | (with_reducible refine DL.dK_dat ?_; bv_omega)
  | (with_reducible refine DL.dK_fr ?_; bv_omega)
  | (with_reducible refine DL.cnd_true ?_; bv_omega)
  | (with_reducible refine DL.cnd_false ?_; bv_omega)
  | (with_reducible refine DL.cnd_not ?_; bv_omega)
  | (with_reducible refine DL.cnd_pos (by assumption) ?_; bv_omega)
  | (with_reducible refine DL.cnd_neg (by assumption) ?_; bv_omega)
  | (with_reducible refine DL.wI_it ?_; bv_omega)
  | (with_reducible refine DL.wI_r1 ?_; bv_omega)
  | (with_reducible refine DL.wI_r2 ?_; bv_omega)
  | (with_reducible refine DL.itK_lst ?_; bv_omega)
  | (with_reducible refine DL.itK_fr ?_; bv_omega)
  | (with_reducible refine DL.itK_tup ?_; bv_omega)
  | (with_reducible refine DL.itK_sq ?_; bv_omega)
  | (with_reducible refine DL.op_sub' ?_; bv_omega)
  | (with_reducible refine DL.op_add' ?_; bv_omega)
  | (with_reducible refine DL.op_lt' ?_; bv_omega)
  | (with_reducible refine DL.op_ltI' ?_; bv_omega)
  | (with_reducible refine DL.op_le' ?_; bv_omega)
  | (with_reducible refine DL.op_gt' ?_; bv_omega)
  | (with_reducible refine DL.op_ge' ?_; bv_omega)
  | (with_reducible refine DL.op_eqi' ?_; bv_omega)
  | (with_reducible refine DL.op_nei' ?_; bv_omega)
  | (with_reducible refine DL.op_eqb' ?_; bv_omega)
  | (with_reducible refine DL.op_neb' ?_; bv_omega)
  | (with_reducible refine DL.cb_len_lst ?_; bv_omega)
  | (with_reducible refine DL.cb_len_tup ?_; bv_omega)
  | (with_reducible refine DL.cb_len_sq ?_; bv_omega)
  | (with_reducible refine DL.cb_tuple ?_; bv_omega)
  | (with_reducible refine DL.cb_list ?_; bv_omega)
  | (with_reducible refine DL.cb_listT ?_; bv_omega)
  | (with_reducible refine DL.cb_abs ?_; bv_omega)
  | (with_reducible refine DL.cb_int ?_; bv_omega)
  | (with_reducible refine DL.cb_all ?_; bv_omega)
  | (with_reducible refine DL.cb_sorted ?_; bv_omega)
  | (refine DL.oK_some (o := DL.allD _) rfl ⟨Nat.le_of_ble_eq_true rfl, ?_⟩; bv_omega)
  | (with_reducible refine DL.wA_nilV ?_; bv_omega)
  | (with_reducible refine DL.wA_consV ?_; bv_omega)
  | (with_reducible refine DL.wE_at ?_; bv_omega)
  | (with_reducible refine DL.wE_make ?_; bv_omega)
  | (with_reducible refine DL.cb_any ?_; bv_omega)
  | (with_reducible refine DL.op_eqs ?_; bv_omega)
  | (with_reducible refine DL.ix0_tup ?_; bv_omega)
  | (with_reducible refine DL.ix1_tup ?_; bv_omega)
  | (with_reducible refine DL.ix2_tup ?_; bv_omega)
  | (with_reducible refine DL.eq_same ?_; bv_omega)
  | (refine DL.atK_ins rfl ?_; bv_omega)
  | (with_reducible refine DL.tr_bl ?_; bv_omega)
  | (refine ⟨_, rfl, ?_⟩; bv_omega)
  | (refine ⟨DL.isIns_toS _, ?_⟩; bv_omega)
  | (refine ⟨(rfl : DL.isIns _ _ = true), ?_⟩; bv_omega)
  | (refine ⟨(rfl : DL.isLst _ = true), ?_⟩; bv_omega)
  | (refine ⟨⟨rfl, rfl⟩, ?_⟩; bv_omega)
  | (with_reducible refine DL.wF_0 (by assumption) rfl rfl ?_; bv_omega)
  | (with_reducible refine DL.wF_box (by assumption) rfl rfl rfl ?_; try dsimp only [List.set_cons_zero, List.set_cons_succ]; bv_omega)
  | (refine DL.wF_0 (by apply_assumption) rfl rfl ?_; bv_omega)
  | skip)
namespace NS
open PySem PySem.Spec PyProof.Rows L2 DL
theorem e_law_cells : m_law_cells = M_cells := rfl
theorem e_tupled (j : Nat) : m_tupled j = T_ j := by
  induction j with
  | zero => rfl
  | succ j ih => unfold m_tupled T_; rw [ih]; rfl
theorem e_law_same (j : Nat) : m_law_same j = M_same j := by
  induction j with
  | zero => rfl
  | succ j ih => unfold m_law_same M_same; rw [ih]; rfl
theorem e_law_take : m_law_take = M_take := rfl
theorem e_law_of : m_law_of = M_of := rfl
theorem e_law_pick : m_law_pick = M_pick := rfl
theorem e_law_box : m_law_box = M_box := rfl
theorem e_law_values : m_law_values = M_values := rfl
theorem hand_ok : m_law_hand_right [] [] = some (.dat (.bl true), []) := by kernel_rfl
abbrev LnD (a t b : Int) : D := .ins 0 [.int a, .int b, .int t]
def ln (a t b x y : Int) : Bool := decide (((x - y).natAbs : Int) * b ≤ a * b + (y.natAbs : Int) * t)
def ow (w : Str) (there back : Bool) : Bool := if w = "kept" then there else if w = "new" then back else if w = "both" then there && back else there || back
def stayF (o : Int → Int → Bool) (found : List Int) : List Int → List Int
  | [] => found
  | v :: r => if found.any (fun k => o k v) then stayF o found r else stayF o (found ++ [v]) r
abbrev oL (a t b : Int) (w : Str) (k v : Int) : Bool := ow w (ln a t b v k) (ln a t b k v)
section
variable {a t b : Int} {w : Str} {ns : List Int} {k : Bool}
structure Sm (a t b : Int) : Prop where
  a0 : 0 ≤ a
  a1 : a ≤ 1000
  t0 : 0 ≤ t
  tb : t < b
  b1 : b ≤ 1000
theorem leans_ok (h : Sm a t b) (x y : Int) : m_Lean_leans [.dat (LnD a t b), .dat (.int x), .dat (.int y)] [] = some (.dat (.bl (ln a t b x y)), []) := by
  obtain ⟨h1, h2, h3, h4, h5⟩ := h
  unfold m_Lean_leans
  bv_omega
  refine op_mul' (cMul_r (by omega) (by omega)) ?_
  bv_omega
  refine op_mul' (cMul_r (by omega) (by omega)) ?_
  bv_omega
  refine op_mul' (cMul_r (by omega) (by omega)) ?_
  bv_omega
  rfl
theorem lleans_ok (h : Sm a t b) (x y : Int) : m_law_leans [.dat (.tup [.int a, .int t, .int b]), .dat (.int x), .dat (.int y)] [] = some (.dat (.bl (ln a t b x y)), []) := by
  obtain ⟨h1, h2, h3, h4, h5⟩ := h
  unfold m_law_leans
  bv_omega
  refine op_mul' (cMul_r (by omega) (by omega)) ?_
  bv_omega
  refine op_mul' (cMul_r (by omega) (by omega)) ?_
  bv_omega
  refine op_mul' (cMul_l (by omega) (by omega)) ?_
  bv_omega
  rw [Int.mul_comm t]
  rfl
theorem counts_ok (h : Sm a t b) (x y : Int) : m_Lean_counts [.dat (LnD a t b), .dat (.str w), .dat (.int x), .dat (.int y)] [] = some (.dat (.bl (oL a t b w x y)), []) := by
  have l := leans_ok h
  unfold m_Lean_counts oL ow
  bv_omega
  refine cnd_dec (fun e => ?_) (fun e => ?_)
  · bv_omega
    rw [if_pos e]
    rfl
  rw [if_neg e]
  bv_omega
  refine cnd_dec (fun e => ?_) (fun e => ?_)
  · bv_omega
    rw [if_pos e]
    rfl
  rw [if_neg e]
  bv_omega
  refine cnd_dec (fun e => ?_) (fun e => ?_)
  · rw [if_pos e]
    bv_omega
    refine ⟨fun z => ?_, fun z => ?_⟩
    · bv_omega
      rw [z]
      rfl
    · rw [z]
      rfl
  · rw [if_neg e]
    bv_omega
    refine ⟨fun z => ?_, fun z => ?_⟩
    · rw [z]
      rfl
    · bv_omega
      rw [z]
      rfl
theorem out_ok (h : Sm a t b) (x y : Int) : m_law_out [.dat (.tup [.int a, .int t, .int b]), .dat (.str w), .dat (.int x), .dat (.int y)] [] = some (.dat (.bl (oL a t b w x y)), []) := by
  have l := lleans_ok h
  unfold m_law_out oL ow
  bv_omega
  refine cnd_dec (fun e => ?_) (fun e => ?_)
  · bv_omega
    rw [if_pos e]
    rfl
  rw [if_neg e]
  bv_omega
  refine cnd_dec (fun e => ?_) (fun e => ?_)
  · bv_omega
    rw [if_pos e]
    rfl
  rw [if_neg e]
  bv_omega
  refine cnd_dec (fun e => ?_) (fun e => ?_)
  · rw [if_pos e]
    bv_omega
    refine ⟨fun z => ?_, fun z => ?_⟩
    · bv_omega
      rw [z]
      rfl
    · rw [z]
      rfl
  · rw [if_neg e]
    bv_omega
    refine ⟨fun z => ?_, fun z => ?_⟩
    · rw [z]
      rfl
    · bv_omega
      rw [z]
      rfl
theorem stayF_cons (o : Int → Int → Bool) (found r : List Int) (v : Int) : stayF o found (v :: r) = if found.any (fun k => o k v) then stayF o found r else stayF o (found ++ [v]) r := rfl
theorem stayF_len (o : Int → Int → Bool) : ∀ (r found : List Int), (stayF o found r).length ≤ found.length + r.length
  | [], found => by simp [stayF]
  | v :: r, found => by
    unfold stayF
    split
    · have := stayF_len o r found
      rw [List.length_cons]
      omega
    · have := stayF_len o r (found ++ [v])
      rw [List.length_append, List.length_singleton] at this
      rw [List.length_cons]
      omega
theorem kept_ok (h : Sm a t b) (hl : ns.length ≤ 100) : m_kept_by [.dat (sqD k (ns.map D.int)), .dat (LnD a t b), .dat (.str w)] [] = some (.fr ((stayF (oL a t b w) [] ns).map D.int), []) := by
  have cn := counts_ok (w := w) h
  have tp : m_tupled 4 [.dat (sqD k (ns.map D.int))] [] = some (.dat (.tup (ns.map D.int)), []) := by
    rw [e_tupled]
    exact T_ints (by omega)
  unfold m_kept_by
  bv_omega
  refine wL_inv (w := D.int) (fun rest δ μ => ∃ found x4, δ = [.dat (sqD k (ns.map D.int)), .dat (LnD a t b), .dat (.str w), .cel 0, x4, .no] ∧ μ = [.l (found.map D.int)] ∧ stayF (oL a t b w) found rest = stayF (oL a t b w) [] ns ∧ found.length + rest.length ≤ 100) ⟨[], _, rfl, rfl, rfl, by simp; omega⟩ ?_ ?_
  · rintro v rest δ μ ⟨found, x4, rfl, rfl, e, hn⟩
    rw [List.length_cons] at hn
    refine ⟨rfl, _, rfl, ?_⟩
    dsimp only [List.set_cons_zero, List.set_cons_succ]
    rw [stayF_cons] at e
    bv_omega
    refine itK_cel rfl ?_
    refine wLc_map (w := D.int) (g := fun own => D.bl (oL a t b w own v)) (gdC_true rfl) (by omega) (fun x hx => ⟨_, rfl, ?_⟩) ?_
    · dsimp only [wipeR, List.set_cons_zero, List.set_cons_succ]
      bv_omega
      exact ⟨rfl, rfl⟩
    bv_omega
    refine ⟨fun z => ?_, fun z => ?_⟩
    · rw [z, if_pos rfl] at e
      bv_omega
      exact ⟨found, _, rfl, rfl, e, by omega⟩
    · rw [z, if_neg (by simp)] at e
      bv_omega
      refine oK_append rfl (by simp; omega) ?_
      exact ⟨found ++ [v], _, rfl, by simp, e, by simp; omega⟩
  · rintro δ μ ⟨found, x4, rfl, rfl, e, hn⟩
    refine ⟨rfl, ?_⟩
    bv_omega
    rw [← e]
    rfl
theorem stays_ok (h : Sm a t b) (hl : ns.length ≤ 100) : m_law_stays [.dat (.tup [.int a, .int t, .int b]), .dat (.str w), .dat (.tup (ns.map D.int))] [] = some (.fr ((stayF (oL a t b w) [] ns).map D.int), []) := by
  have cn := out_ok (w := w) h
  unfold m_law_stays
  bv_omega
  refine wL_inv (w := D.int) (fun rest δ μ => ∃ found x4, δ = [.dat (.tup [.int a, .int t, .int b]), .dat (.str w), .dat (.tup (ns.map D.int)), .cel 0, x4, .no] ∧ μ = [.l (found.map D.int)] ∧ stayF (oL a t b w) found rest = stayF (oL a t b w) [] ns ∧ found.length + rest.length ≤ 100) ⟨[], _, rfl, rfl, rfl, by simp; omega⟩ ?_ ?_
  · rintro v rest δ μ ⟨found, x4, rfl, rfl, e, hn⟩
    rw [List.length_cons] at hn
    refine ⟨rfl, _, rfl, ?_⟩
    dsimp only [List.set_cons_zero, List.set_cons_succ]
    rw [stayF_cons] at e
    bv_omega
    refine itK_cel rfl ?_
    refine wLc_filter (w := D.int) (p := fun own => oL a t b w own v) (g := D.int) (gdC_true rfl) (by omega) (fun x hx => ⟨_, rfl, ?_⟩) ?_
    · dsimp only [wipeR, List.set_cons_zero, List.set_cons_succ]
      bv_omega
      refine ⟨rfl, rfl, fun _ => ?_⟩
      bv_omega
      exact ⟨rfl, rfl⟩
    bv_omega
    refine nil_eq ?_
    have ef : (found.filter fun own => oL a t b w own v).isEmpty = !(found.any fun own => oL a t b w own v) := by
      cases q : found.any fun own => oL a t b w own v with
      | true =>
        obtain ⟨x, h1, h2⟩ := List.any_eq_true.mp q
        cases r : found.filter fun own => oL a t b w own v with
        | nil => exact absurd h2 (List.filter_eq_nil_iff.mp r x h1)
        | cons _ _ => rfl
      | false =>
        have : (found.filter fun own => oL a t b w own v) = [] := List.filter_eq_nil_iff.mpr fun x hx hp => by
          have := List.any_eq_false.mp q x hx
          exact this hp
        rw [this]
        rfl
    rw [ef]
    bv_omega
    refine ⟨fun z => ?_, fun z => ?_⟩
    · have z' : (found.any fun own => oL a t b w own v) = false := by simpa using z
      rw [z', if_neg (by simp)] at e
      bv_omega
      refine oK_append rfl (by simp; omega) ?_
      exact ⟨found ++ [v], _, rfl, by simp, e, by simp; omega⟩
    · have z' : (found.any fun own => oL a t b w own v) = true := by simpa using z
      rw [z', if_pos rfl] at e
      bv_omega
      exact ⟨found, _, rfl, rfl, e, by omega⟩
  · rintro δ μ ⟨found, x4, rfl, rfl, e, hn⟩
    refine ⟨rfl, ?_⟩
    bv_omega
    rw [← e]
    rfl
end
end NS
set_option Elab.async false
set_option linter.all false
set_option maxRecDepth 100000
set_option maxHeartbeats 1000000
local macro_rules | `(tactic| bv_omega) => `(tactic| first
  | (with_reducible refine DL.fn_of rfl ?_; dsimp only [List.cons_append, List.nil_append, List.reduceReplicate, Nat.reduceSub]; bv_omega)
  | (with_reducible refine DL.wS_seq ?_; bv_omega)
  | (with_reducible refine DL.sqK_nx ?_; bv_omega)
  | (with_reducible refine DL.sqK_rt ?_; bv_omega)
  | (with_reducible refine DL.wS_ret ?_; bv_omega)
  | (with_reducible refine DL.wS_if ?_; bv_omega)
  | (with_reducible refine DL.wS_set ?_; bv_omega)
  | (with_reducible refine DL.wS_setC ?_; bv_omega)
  | (with_reducible refine DL.wS_par ?_; bv_omega)
  | (with_reducible refine DL.wS_par3 ?_; bv_omega)
  | (with_reducible refine DL.wS_asg ?_; bv_omega)
  | (with_reducible refine DL.wS_drop ?_; bv_omega)
  | (with_reducible refine DL.wS_for ?_; bv_omega)
  | (with_reducible refine DL.wS_nx ?_; bv_omega)
  | (with_reducible refine DL.wS_bk ?_; bv_omega)
  | (with_reducible refine DL.wS_ct ?_; bv_omega)
  | (with_reducible refine DL.stK_dat ?_; try dsimp only [List.set_cons_zero, List.set_cons_succ]; bv_omega)
  | (with_reducible refine DL.stK_fr ?_; try dsimp only [List.set_cons_zero, List.set_cons_succ]; bv_omega)
  | (with_reducible refine DL.stK_cel ?_; try dsimp only [List.set_cons_zero, List.set_cons_succ]; bv_omega)
  | (with_reducible refine DL.stK_new ?_; try dsimp only [List.set_cons_zero, List.set_cons_succ, List.length_cons, List.length_nil, List.cons_append, List.nil_append, Nat.zero_add, Nat.reduceAdd]; bv_omega)
  | (with_reducible refine DL.wE_var ?_; (first | refine DL.vK_dat rfl ?_ | refine DL.vK_cel rfl ?_); bv_omega)
  | (with_reducible refine DL.wE_c ?_; bv_omega)
  | (with_reducible refine DL.wE_op ?_; bv_omega)
  | (with_reducible refine DL.wE_un ?_; bv_omega)
  | (with_reducible refine DL.wE_not ?_; bv_omega)
  | (with_reducible refine DL.wE_if ?_; bv_omega)
  | (with_reducible refine DL.wE_or ?_; bv_omega)
  | (with_reducible refine DL.wE_and ?_; bv_omega)
  | (with_reducible refine DL.wE_tup ?_; bv_omega)
  | (with_reducible refine DL.wE_lst ?_; bv_omega)
  | (with_reducible refine DL.wE_cb ?_; bv_omega)
  | (with_reducible refine DL.wE_call ?_; bv_omega)
  | (with_reducible refine DL.wE_callK ?_; bv_omega)
  | (with_reducible refine DL.wE_meth ?_; bv_omega)
  | (with_reducible refine DL.wE_methK ?_; bv_omega)
  | (with_reducible refine DL.wE_lc ?_; bv_omega)
  | (with_reducible refine DL.wE_bm ?_; bv_omega)
  | (with_reducible refine DL.wT_b ?_; bv_omega)
  | (with_reducible refine DL.wT_not ?_; bv_omega)
  | (with_reducible refine DL.wT_and ?_; bv_omega)
  | (with_reducible refine DL.wT_or ?_; bv_omega)
  | (with_reducible refine DL.wA_nil ?_; bv_omega)
  | (with_reducible refine DL.wA_cons ?_; bv_omega)
  | (with_reducible refine DL.aK_dat ?_; bv_omega)
  | (with_reducible refine DL.aK_fr ?_; bv_omega)
  | (with_reducible refine DL.aK_cel ?_; bv_omega)
  | (with_reducible refine DL.bK_bl ?_; bv_omega)
  | (with_reducible refine DL.dK_dat ?_; bv_omega)
  | (with_reducible refine DL.dK_fr ?_; bv_omega)
  | (with_reducible refine DL.cnd_true ?_; bv_omega)
  | (with_reducible refine DL.cnd_false ?_; bv_omega)
  | (with_reducible refine DL.cnd_not ?_; bv_omega)
  | (with_reducible refine DL.cnd_pos (by assumption) ?_; bv_omega)
  | (with_reducible refine DL.cnd_neg (by assumption) ?_; bv_omega)
  | (with_reducible refine DL.wI_it ?_; bv_omega)
  | (with_reducible refine DL.wI_r1 ?_; bv_omega)
  | (with_reducible refine DL.wI_r2 ?_; bv_omega)
  | (with_reducible refine DL.itK_lst ?_; bv_omega)
  | (with_reducible refine DL.itK_fr ?_; bv_omega)
  | (with_reducible refine DL.itK_tup ?_; bv_omega)
  | (with_reducible refine DL.itK_sq ?_; bv_omega)
  | (with_reducible refine DL.op_sub' ?_; bv_omega)
  | (with_reducible refine DL.op_add' ?_; bv_omega)
  | (with_reducible refine DL.op_lt' ?_; bv_omega)
  | (with_reducible refine DL.op_ltI' ?_; bv_omega)
  | (with_reducible refine DL.op_le' ?_; bv_omega)
  | (with_reducible refine DL.op_gt' ?_; bv_omega)
  | (with_reducible refine DL.op_ge' ?_; bv_omega)
  | (with_reducible refine DL.op_eqi' ?_; bv_omega)
  | (with_reducible refine DL.op_nei' ?_; bv_omega)
  | (with_reducible refine DL.op_eqb' ?_; bv_omega)
  | (with_reducible refine DL.op_neb' ?_; bv_omega)
  | (with_reducible refine DL.cb_len_lst ?_; bv_omega)
  | (with_reducible refine DL.cb_len_tup ?_; bv_omega)
  | (with_reducible refine DL.cb_len_sq ?_; bv_omega)
  | (with_reducible refine DL.cb_tuple ?_; bv_omega)
  | (with_reducible refine DL.cb_list ?_; bv_omega)
  | (with_reducible refine DL.cb_listT ?_; bv_omega)
  | (with_reducible refine DL.cb_abs ?_; bv_omega)
  | (with_reducible refine DL.cb_int ?_; bv_omega)
  | (with_reducible refine DL.cb_all ?_; bv_omega)
  | (with_reducible refine DL.cb_sorted ?_; bv_omega)
  | (refine DL.oK_some (o := DL.allD _) rfl ⟨Nat.le_of_ble_eq_true rfl, ?_⟩; bv_omega)
  | (with_reducible refine DL.wA_nilV ?_; bv_omega)
  | (with_reducible refine DL.wA_consV ?_; bv_omega)
  | (with_reducible refine DL.wE_at ?_; bv_omega)
  | (with_reducible refine DL.wE_make ?_; bv_omega)
  | (with_reducible refine DL.cb_any ?_; bv_omega)
  | (with_reducible refine DL.op_eqs ?_; bv_omega)
  | (with_reducible refine DL.ix0_tup ?_; bv_omega)
  | (with_reducible refine DL.ix1_tup ?_; bv_omega)
  | (with_reducible refine DL.ix2_tup ?_; bv_omega)
  | (with_reducible refine DL.eq_same ?_; bv_omega)
  | (refine DL.atK_ins rfl ?_; bv_omega)
  | (with_reducible refine DL.tr_bl ?_; bv_omega)
  | (refine ⟨_, rfl, ?_⟩; bv_omega)
  | (refine ⟨DL.isIns_toS _, ?_⟩; bv_omega)
  | (refine ⟨(rfl : DL.isIns _ _ = true), ?_⟩; bv_omega)
  | (refine ⟨(rfl : DL.isLst _ = true), ?_⟩; bv_omega)
  | (refine ⟨⟨rfl, rfl⟩, ?_⟩; bv_omega)
  | (with_reducible refine DL.wF_0 (by assumption) rfl rfl ?_; bv_omega)
  | (with_reducible refine DL.wF_box (by assumption) rfl rfl rfl ?_; try dsimp only [List.set_cons_zero, List.set_cons_succ]; bv_omega)
  | (refine DL.wF_0 (by apply_assumption) rfl rfl ?_; bv_omega)
  | skip)
namespace NS
open PySem PySem.Spec PyProof.Rows L2 DL
theorem two0 {X : Mu} {p q r : Cel} : (X ++ [p, q] ++ [r])[X.length]? = some p := by simp
theorem two1 {X : Mu} {p q r : Cel} : (X ++ [p, q] ++ [r])[X.length + 1]? = some q := by
  rw [List.append_assoc, List.getElem?_append_right (by omega)]
  simp
theorem two2 {X : Mu} {p q r : Cel} : (X ++ [p, q] ++ [r])[(X ++ [p, q]).length]? = some r := by simp
theorem set_two {X : Mu} {p q r p' : Cel} : (X ++ [p, q] ++ [r]).set X.length p' = X ++ [p', q, r] := by
  rw [List.append_assoc, List.set_append_right _ _ (by omega)]
  simp
theorem ixN_two {X : Mu} {p q : Cel} {j : Nat} {es : List El} {K : R → Prop} (h : K (.cel j)) : oK (fIxN (.cel (X ++ [p, q]).length) (.dat (.int 0)) (X ++ [p, q] ++ [Cel.n (El.c j :: es)])) K := by
  refine ⟨_, ?_, h⟩
  unfold fIxN
  dsimp only
  rw [two2]
  dsimp only [nOf]
  rw [show (0 : Int) = ((0 : Nat) : Int) from rfl, DL.atI_nat (by simp)]
  rfl
section
variable {a t b far : Int} {w : Str} {ns : List Int} {x1 x2 x8 x9 x10 x11 : R} {X : Mu}
theorem fixed_eq (w : Str) : oL far 0 1 w = oL far 0 1 "both" := by
  funext k v
  have e : ln far 0 1 v k = ln far 0 1 k v := by
    unfold ln
    rw [show (v - k).natAbs = (k - v).natAbs by omega]
    simp
  have e1 : ∀ (w : Str) (s : Bool), ow w s s = s := fun w s => by
    unfold ow
    split
    · rfl
    split
    · rfl
    split
    · cases s <;> rfl
    · cases s <;> rfl
  show ow w (ln far 0 1 v k) (ln far 0 1 k v) = ow "both" (ln far 0 1 v k) (ln far 0 1 k v)
  rw [e, e1, e1]
theorem vw_two {A B : List D} : vwC (X ++ [Cel.l A, Cel.l B] ++ [Cel.n [El.c X.length, El.c (X.length + 1)]]) 4 (X ++ [Cel.l A, Cel.l B]).length = some (.lst [.lst A, .lst B]) := by
  unfold vwC
  rw [two2]
  dsimp only [List.map]
  unfold vwC
  rw [two0, two1]
  rfl
theorem word_ok (h : Sm a t b) (hf : 0 ≤ far) (hf2 : far ≤ 100) (hl : ns.length ≤ 100) : wS m_law_right_b13 [.cel 0, x1, x2, .dat (.tup [.int a, .int t, .int b]), .dat (.tup (ns.map D.int)), .dat (LnD a t b), .dat (.int far), .dat (.str w), x8, x9, x10, x11] X fun fl => ∃ Y y8 y9 y10 y11, fl = .nx [.cel 0, x1, x2, .dat (.tup [.int a, .int t, .int b]), .dat (.tup (ns.map D.int)), .dat (LnD a t b), .dat (.int far), .dat (.str w), y8, y9, y10, y11] (X ++ Y) := by
  have hs : Sm far 0 1 := ⟨hf, by omega, by omega, by omega, by omega⟩
  have s1 := stays_ok (w := w) h hl
  have s2 := stays_ok (w := "both") hs hl
  have k1 : m_kept_by [.dat (.tup (ns.map D.int)), .dat (LnD a t b), .dat (.str w)] [] = _ := kept_ok (k := true) (w := w) h hl
  have k2 : m_kept_by [.dat (.lst (ns.map D.int)), .dat (LnD a t b), .dat (.str w)] [] = _ := kept_ok (k := false) (w := w) h hl
  have k3 : m_kept_by [.dat (.tup (ns.map D.int)), .dat (LnD far 0 1), .dat (.str w)] [] = _ := kept_ok (k := true) (w := w) hs hl
  rw [fixed_eq w] at k3
  have lby : m_Lean_by [.dat (.int far)] [] = some (.dat (LnD far 0 1), []) := rfl
  have l1 := stayF_len (oL a t b w) ns []
  have l2 := stayF_len (oL far 0 1 "both") ns []
  generalize stayF (oL a t b w) [] ns = A at *
  generalize stayF (oL far 0 1 "both") [] ns = B at *
  rw [List.length_nil] at l1 l2
  have sm1 := same_refl 5 (.lst [.lst (A.map D.int), .lst (A.map D.int)]) (ok_two (ok_lstI (by omega)) (ok_lstI (by omega)))
  have sm2 := same_refl 5 (.lst [.lst (A.map D.int), .lst (B.map D.int)]) (ok_two (ok_lstI (by omega)) (ok_lstI (by omega)))
  rw [← e_law_same] at sm1 sm2
  bv_omega
  refine wS_setN ?_
  bv_omega
  refine ⟨_, rfl, by simp, ?_⟩
  dsimp only [List.set_cons_zero, List.set_cons_succ]
  bv_omega
  refine wE_callW (ds := []) ?_
  bv_omega
  refine ⟨[.lst [.lst (A.map D.int), .lst (A.map D.int)], .lst [.lst (A.map D.int), .lst (A.map D.int)]], ?_, _, sm1, rfl, ?_⟩
  · simp only [vwRs, vwR, vw_two]
  bv_omega
  refine ixN_two ?_
  refine ⟨_, rfl, by rw [two0]; rfl, ?_⟩
  bv_omega
  refine oK_append two0 (by simp; omega) ?_
  dsimp only
  rw [set_two]
  bv_omega
  exact ⟨_, _, _, _, _, rfl⟩
theorem turn_ok {bx : List D} {c : Int} {ν : Mu} {x3 x4 x5 x6 x7 : R} (hb : Bx c bx) (hc : c ≤ 100000) : wS m_law_right_b15 [.cel 0, x1, x2, x3, x4, x5, x6, x7, x8, x9, x10, x11] (.l bx :: ν) fun fl => ∃ b' ν' y2 y3 y4 y5 y6 y7 y8 y9 y10 y11, Bx (c + 50) b' ∧ fl = .nx [.cel 0, x1, y2, y3, y4, y5, y6, y7, y8, y9, y10, y11] (.l b' :: ν') := by
  obtain ⟨d1, b1, hd1, h1, e1⟩ := of_mem (xs := [.tup [.int 0, .int 1], .tup [.int 1, .int 2], .tup [.int 1, .int 3], .tup [.int 2, .int 3], .tup [.int 1, .int 5], .tup [.int 1, .int 10], .tup [.int 3, .int 4]]) hb (by omega) (by simp) (by simp) (fun d => ∃ t b : Int, d = .tup [.int t, .int b] ∧ 0 ≤ t ∧ t < b ∧ b ≤ 10) (by
    intro d hd
    simp only [List.mem_cons, List.not_mem_nil, or_false] at hd
    rcases hd with rfl | rfl | rfl | rfl | rfl | rfl | rfl <;> exact ⟨_, _, rfl, by decide, by decide, by decide⟩)
  obtain ⟨t, b, rfl, g1, g2, g3⟩ := hd1
  obtain ⟨d2, b2, hd2, h2, e2⟩ := of_mem (xs := [.int 0, .int 0, .int 1, .int 2]) h1 (by omega) (by simp) (by simp) (fun d => ∃ a : Int, d = .int a ∧ 0 ≤ a ∧ a ≤ 2) (by
    intro d hd
    simp only [List.mem_cons, List.not_mem_nil, or_false] at hd
    rcases hd with rfl | rfl | rfl | rfl <;> exact ⟨_, rfl, by decide, by decide⟩)
  obtain ⟨a, rfl, g4, g5⟩ := hd2
  obtain ⟨ls, b3, l1, l2, h3, e3⟩ := values_ok (most := 10) (by omega) h2 (by omega)
  obtain ⟨far, b4, f0, f1, h4, e4⟩ := take_ok h3 (by omega) (n := 4) (by omega) (by omega)
  rw [← e_law_of] at e1 e2
  rw [← e_law_values] at e3
  rw [← e_law_take] at e4
  replace e3 : m_law_values [.cel 0, .dat (.int 10)] [.l b2] = some (.dat (.tup (ls.map D.int)), [.l b3]) := e3
  have sm : Sm a t b := ⟨g4, by omega, g1, g2, by omega⟩
  have ini : m_Lean_init [.dat (.int a), .dat (.int t), .dat (.int b)] (.l b3 :: ν) = some ([.int a, .int b, .int t], .l b3 :: ν) := by
    have q1 : decide (0 ≤ t) = true := decide_eq_true g1
    have q2 : decide (t < b) = true := decide_eq_true g2
    simp [m_Lean_init, q1, q2, g1, g2]
    rfl
  bv_omega
  refine ⟨_, ini, ?_⟩
  dsimp only
  bv_omega
  refine wL_inv (w := D.str) (xs := ["kept", "new", "both", "either"]) (fun rest δ μ => ∃ ν' y7 y8 y9 y10 y11, δ = [.cel 0, x1, .dat (.tup [.int t, .int b]), .dat (.tup [.int a, .int t, .int b]), .dat (.tup (ls.map D.int)), .dat (LnD a t b), .dat (.int far), y7, y8, y9, y10, y11] ∧ μ = .l b4 :: ν') ⟨ν, _, _, _, _, _, rfl, rfl⟩ ?_ ?_
  · rintro w rest δ μ ⟨ν', y7, y8, y9, y10, y11, rfl, rfl⟩
    refine ⟨rfl, _, rfl, ?_⟩
    dsimp only [List.set_cons_zero, List.set_cons_succ]
    obtain ⟨fl, z1, Y, z8, z9, z10, z11, rfl⟩ := word_ok (X := .l b4 :: ν') (w := w) (x1 := x1) (x2 := .dat (.tup [.int t, .int b])) (x8 := y8) (x9 := y9) (x10 := y10) (x11 := y11) sm f0 (by omega) (ns := ls) (by omega)
    exact ⟨_, z1, ν' ++ Y, _, _, _, _, _, rfl, rfl⟩
  · rintro δ μ ⟨ν', y7, y8, y9, y10, y11, rfl, rfl⟩
    exact ⟨rfl, _, _, _, _, _, _, _, _, _, _, _, _, h4.mono (by omega), rfl⟩
theorem right_ok : Right m_law_right 400 10000 := by
  refine ⟨by decide, fun b c hb hc => ?_⟩
  have hh := hand_ok
  have key : wF m_law_right [.cel 0] [.l b] fun r μ => ∃ b', Bx (c + 400) b' ∧ r = .dat (.bl true) ∧ μ = [.l b'] := by
    unfold m_law_right
    refine fn_wp rfl ?_
    dsimp only [List.cons_append, List.nil_append, List.reduceReplicate, Nat.reduceSub]
    bv_omega
    refine ⟨by omega, ?_⟩
    rw [← List.map_id (rgD 0 8)]
    refine wL_inv (w := id) (fun rest δ μ => ∃ b' c' ν x1 x2 x3 x4 x5 x6 x7 x8 x9 x10 x11, δ = [.cel 0, x1, x2, x3, x4, x5, x6, x7, x8, x9, x10, x11] ∧ μ = .l b' :: ν ∧ Bx c' b' ∧ c' + 50 * rest.length = c + 400) ⟨b, c, [], _, _, _, _, _, _, _, _, _, _, _, rfl, rfl, hb, by rw [rgD_len]; omega⟩ ?_ ?_
    · rintro i rest δ μ ⟨b', c', ν, x1, x2, x3, x4, x5, x6, x7, x8, x9, x10, x11, rfl, rfl, h1, h2⟩
      rw [List.length_cons] at h2
      refine ⟨rfl, _, rfl, ?_⟩
      dsimp only [List.set_cons_zero, List.set_cons_succ, id]
      obtain ⟨fl, g1, b2, ν2, y2, y3, y4, y5, y6, y7, y8, y9, y10, y11, g2, rfl⟩ := turn_ok (ν := ν) (x1 := .dat i) (x2 := x2) (x3 := x3) (x4 := x4) (x5 := x5) (x6 := x6) (x7 := x7) (x8 := x8) (x9 := x9) (x10 := x10) (x11 := x11) h1 (by omega)
      exact ⟨_, g1, b2, _, ν2, _, _, _, _, _, _, _, _, _, _, _, rfl, rfl, g2, by omega⟩
    · rintro δ μ ⟨b', c', ν, x1, x2, x3, x4, x5, x6, x7, x8, x9, x10, x11, rfl, rfl, h1, h2⟩
      refine ⟨rfl, ?_⟩
      bv_omega
      refine ⟨(.dat (.bl true), [.l b']), ?_, b', h1.mono (by simp at h2; omega), rfl, rfl⟩
      dsimp only [retF, retR]
      rw [show [Cel.l b].length = 1 from rfl, lowM_1]
      rfl
  obtain ⟨r, μ, h1, b', h2, rfl, rfl⟩ := key
  exact ⟨b', h2, h1⟩
theorem law_true : ∀ ns : List Int, ns.length ≤ 63 → m_law [.dat (.scr ns)] [] = some (.dat (.bl true), []) :=
  fun ns h => lawB (most := 3) (by omega) (by omega) (by omega) right_ok ns h
end
end NS
set_option maxHeartbeats 4000000
namespace NS
open PySem PySem.Spec PyProof.Rows L2 DL
theorem all_mk {l : PySem.W.OpenLaw} {w : World} {K : PySem.W.Frag} {h : Heap} {mg : Str → Option Value} {fa : Addr} (X : K.In h) (G : h.Ns mainGlobals mg) (hfa : mg "law" = some (.ref fa))
    {C_Lean p_Lean_0 p_Lean_1 p_Lean_2 f1 f2 f3 q3 f4 f5 f6 f7 f8 f9 f10 f11 f12 f13 f14 f15 f16 f17 f18 q18 f19 f20 f21 TC_RULES : Addr}
    {od1 an1 od2 an2 od3 an3 od4 an4 od5 an5 od6 an6 od7 an7 od8 an8 od9 an9 od10 an10 od11 an11 od12 an12 od13 an13 od14 an14 od15 an15 od16 an16 od17 an17 od18 an18 od19 an19 od20 an20 od21 an21 odC_RULES : Option Addr}
    {sl1 sl2 sl3 sl4 sl5 sl6 sl7 sl8 sl9 sl10 sl11 sl12 sl13 sl14 sl15 sl16 sl17 sl18 sl19 sl20 sl21 slC_RULES : Array (Option Value)}
    {oc1 kV1 dc1 pm1 cd1 ct1 oc2 kV2 dc2 pm2 cd2 ct2 oc3 kV3 dc3 pm3 cd3 ct3 oc4 kV4 dc4 pm4 cd4 ct4 oc5 kV5 dc5 pm5 cd5 ct5 oc6 kV6 dc6 pm6 cd6 ct6 oc7 kV7 dc7 pm7 cd7 ct7 oc8 kV8 dc8 pm8 cd8 ct8 oc9 kV9 dc9 pm9 cd9 ct9 oc10 kV10 dc10 pm10 cd10 ct10 oc11 kV11 dc11 pm11 cd11 ct11 oc12 kV12 dc12 pm12 cd12 ct12 oc13 kV13 dc13 pm13 cd13 ct13 oc14 kV14 dc14 pm14 cd14 ct14 oc15 kV15 dc15 pm15 cd15 ct15 oc16 kV16 dc16 pm16 cd16 ct16 oc17 kV17 dc17 pm17 cd17 ct17 oc18 kV18 dc18 pm18 cd18 ct18 oc19 kV19 dc19 pm19 cd19 ct19 oc20 kV20 dc20 pm20 cd20 ct20 oc21 kV21 dc21 pm21 cd21 ct21 : Value}
    {rs3 rs18 : List Value}
    {nC_RULES : Nat}
    {t_KEPT t_NEW t_BOTH tC_RULES_0 tC_RULES_1 tC_RULES_2 tC_RULES_3 : Tok}
    (aC_Lean : PySem.W.nsIn K mainGlobals "Lean" = some (some (.ref C_Lean)))
    (pg_Lean : PySem.W.plainGet K C_Lean Str.empty = true)
    (ic_Lean : PySem.W.isClsIn K C_Lean = true)
    (po_Lean : PySem.W.plainOver K C_Lean = true)
    (sa_Lean : PySem.W.findIn K (.ref C_Lean) "__setattr__" = some (some (.builtin "object.__setattr__")))
    (ca_Lean : PySem.W.findIn K (.ref C_Lean) "__class__" = some (some (.builtin "object.__class__")))
    (cn_Lean : PySem.W.specialIn K (.builtin "object.__class__") "__get__" = some (some (.builtin "getset_descriptor.__get__")))
    (ct_Lean : PySem.W.takesIn K (.builtin "object.__class__") = some true)
    (cm_Lean : PySem.W.mroIn K C_Lean (.type "object") = some true)
    (mk_Lean : PySem.W.makesIn K C_Lean = true)
    (kp_Lean : PySem.W.keepIn K (.ref C_Lean) = true)
    (sf_Lean : PySem.W.selfFirst K C_Lean = true)
    (rd_Lean : PySem.W.readsIn K C_Lean (.type "type") = true)
    (ga_Lean : PySem.W.specialIn K (.ref C_Lean) "__getattribute__" = some (some (.builtin "type.__getattribute__")))
    (ty_Lean : PySem.W.typeIn K (.ref C_Lean) = some (.type "type"))
    (subbool_Lean : PySem.W.subIn K (.ref C_Lean) (.type "bool") = some false)
    (subint_Lean : PySem.W.subIn K (.ref C_Lean) (.type "int") = some false)
    (substr_Lean : PySem.W.subIn K (.ref C_Lean) (.type "str") = some false)
    (subtuple_Lean : PySem.W.subIn K (.ref C_Lean) (.type "tuple") = some false)
    (sublist_Lean : PySem.W.subIn K (.ref C_Lean) (.type "list") = some false)
    (busNoneType_Lean : PySem.W.subIn K (.type "NoneType") (.ref C_Lean) = some false)
    (busbool_Lean : PySem.W.subIn K (.type "bool") (.ref C_Lean) = some false)
    (busint_Lean : PySem.W.subIn K (.type "int") (.ref C_Lean) = some false)
    (busstr_Lean : PySem.W.subIn K (.type "str") (.ref C_Lean) = some false)
    (bustuple_Lean : PySem.W.subIn K (.type "tuple") (.ref C_Lean) = some false)
    (buslist_Lean : PySem.W.subIn K (.type "list") (.ref C_Lean) = some false)
    (sa0_Lean : PySem.W.findIn K (.ref C_Lean) "amount" = some (some (.ref p_Lean_0)))
    (sg0_Lean : PySem.W.specialIn K (.ref p_Lean_0) "__get__" = some (some (.builtin "member_descriptor.__get__")))
    (st0_Lean : PySem.W.takesIn K (.ref p_Lean_0) = some true)
    (sy0_Lean : PySem.W.typeIn K (.ref p_Lean_0) = some (.type "member_descriptor"))
    (sx0_Lean : PySem.W.slotIn K p_Lean_0 C_Lean = some 0)
    (sa1_Lean : PySem.W.findIn K (.ref C_Lean) "bottom" = some (some (.ref p_Lean_1)))
    (sg1_Lean : PySem.W.specialIn K (.ref p_Lean_1) "__get__" = some (some (.builtin "member_descriptor.__get__")))
    (st1_Lean : PySem.W.takesIn K (.ref p_Lean_1) = some true)
    (sy1_Lean : PySem.W.typeIn K (.ref p_Lean_1) = some (.type "member_descriptor"))
    (sx1_Lean : PySem.W.slotIn K p_Lean_1 C_Lean = some 1)
    (sa2_Lean : PySem.W.findIn K (.ref C_Lean) "top" = some (some (.ref p_Lean_2)))
    (sg2_Lean : PySem.W.specialIn K (.ref p_Lean_2) "__get__" = some (some (.builtin "member_descriptor.__get__")))
    (st2_Lean : PySem.W.takesIn K (.ref p_Lean_2) = some true)
    (sy2_Lean : PySem.W.typeIn K (.ref p_Lean_2) = some (.type "member_descriptor"))
    (sx2_Lean : PySem.W.slotIn K p_Lean_2 C_Lean = some 2)
    (own_Lean_Lean : PySem.W.subIn K (.ref C_Lean) (.ref C_Lean) = some true)
    (a1 : PySem.W.nsIn K mainGlobals "_law_cells" = some (some (.ref f1)))
    (l1 : K.lookup f1 = some ⟨oc1, od1, .func (PySem.W.fnOf "_law_cells" "_law_cells" (defArgs s_law_cells) (defBody s_law_cells) (defScope s_law_cells) .none kV1 dc1 pm1 an1 cd1 ct1), sl1⟩)
    (c1 : PySem.W.codeIn K cd1 "_law_cells" = true)
    (k1 : PySem.W.keepIn K (.ref f1) = true)
    (a2 : PySem.W.findIn K (.ref C_Lean) "__init__" = some (some (.ref f2)))
    (l2 : K.lookup f2 = some ⟨oc2, od2, .func (PySem.W.fnOf "__init__" "Lean.__init__" (defArgs s_Lean_init) (defBody s_Lean_init) (defScope s_Lean_init) .none kV2 dc2 pm2 an2 cd2 ct2), sl2⟩)
    (c2 : PySem.W.codeIn K cd2 "Lean.__init__" = true)
    (k2 : PySem.W.keepIn K (.ref f2) = true)
    (i2 : PySem.W.isFn K (.ref f2) = true)
    (a3 : PySem.W.findCls K (.ref C_Lean) (.type "type") "part" = some (.get (.builtin "staticmethod.__get__") (.ref q3) .none (.ref C_Lean)))
    (b3 : PySem.W.recIn K q3 "staticmethod" = some (.ref f3 :: rs3))
    (l3 : K.lookup f3 = some ⟨oc3, od3, .func (PySem.W.fnOf "part" "Lean.part" (defArgs s_Lean_part) (defBody s_Lean_part) (defScope s_Lean_part) .none kV3 dc3 pm3 an3 cd3 ct3), sl3⟩)
    (c3 : PySem.W.codeIn K cd3 "Lean.part" = true)
    (k3 : PySem.W.keepIn K (.ref f3) = true)
    (a4 : PySem.W.nsIn K mainGlobals "tupled" = some (some (.ref f4)))
    (l4 : K.lookup f4 = some ⟨oc4, od4, .func (PySem.W.fnOf "tupled" "tupled" (defArgs s_tupled) (defBody s_tupled) (defScope s_tupled) .none kV4 dc4 pm4 an4 cd4 ct4), sl4⟩)
    (c4 : PySem.W.codeIn K cd4 "tupled" = true)
    (k4 : PySem.W.keepIn K (.ref f4) = true)
    (a5 : PySem.W.findIn K (.ref C_Lean) "leans" = some (some (.ref f5)))
    (l5 : K.lookup f5 = some ⟨oc5, od5, .func (PySem.W.fnOf "leans" "Lean.leans" (defArgs s_Lean_leans) (defBody s_Lean_leans) (defScope s_Lean_leans) .none kV5 dc5 pm5 an5 cd5 ct5), sl5⟩)
    (c5 : PySem.W.codeIn K cd5 "Lean.leans" = true)
    (k5 : PySem.W.keepIn K (.ref f5) = true)
    (i5 : PySem.W.isFn K (.ref f5) = true)
    (a6 : PySem.W.findIn K (.ref C_Lean) "counts" = some (some (.ref f6)))
    (l6 : K.lookup f6 = some ⟨oc6, od6, .func (PySem.W.fnOf "counts" "Lean.counts" (defArgs s_Lean_counts) (defBody s_Lean_counts) (defScope s_Lean_counts) .none kV6 dc6 pm6 an6 cd6 ct6), sl6⟩)
    (c6 : PySem.W.codeIn K cd6 "Lean.counts" = true)
    (k6 : PySem.W.keepIn K (.ref f6) = true)
    (i6 : PySem.W.isFn K (.ref f6) = true)
    (a7 : PySem.W.nsIn K mainGlobals "kept_by" = some (some (.ref f7)))
    (l7 : K.lookup f7 = some ⟨oc7, od7, .func (PySem.W.fnOf "kept_by" "kept_by" (defArgs s_kept_by) (defBody s_kept_by) (defScope s_kept_by) .none kV7 dc7 pm7 an7 cd7 ct7), sl7⟩)
    (c7 : PySem.W.codeIn K cd7 "kept_by" = true)
    (k7 : PySem.W.keepIn K (.ref f7) = true)
    (a8 : PySem.W.nsIn K mainGlobals "_law_same" = some (some (.ref f8)))
    (l8 : K.lookup f8 = some ⟨oc8, od8, .func (PySem.W.fnOf "_law_same" "_law_same" (defArgs s_law_same) (defBody s_law_same) (defScope s_law_same) .none kV8 dc8 pm8 an8 cd8 ct8), sl8⟩)
    (c8 : PySem.W.codeIn K cd8 "_law_same" = true)
    (k8 : PySem.W.keepIn K (.ref f8) = true)
    (a9 : PySem.W.nsIn K mainGlobals "is_rule" = some (some (.ref f9)))
    (l9 : K.lookup f9 = some ⟨oc9, od9, .func (PySem.W.fnOf "is_rule" "is_rule" (defArgs s_is_rule) (defBody s_is_rule) (defScope s_is_rule) .none kV9 dc9 pm9 an9 cd9 ct9), sl9⟩)
    (c9 : PySem.W.codeIn K cd9 "is_rule" = true)
    (k9 : PySem.W.keepIn K (.ref f9) = true)
    (a10 : PySem.W.nsIn K mainGlobals "_law_hand_right" = some (some (.ref f10)))
    (l10 : K.lookup f10 = some ⟨oc10, od10, .func (PySem.W.fnOf "_law_hand_right" "_law_hand_right" (defArgs s_law_hand_right) (defBody s_law_hand_right) (defScope s_law_hand_right) .none kV10 dc10 pm10 an10 cd10 ct10), sl10⟩)
    (c10 : PySem.W.codeIn K cd10 "_law_hand_right" = true)
    (k10 : PySem.W.keepIn K (.ref f10) = true)
    (a11 : PySem.W.nsIn K mainGlobals "_law_take" = some (some (.ref f11)))
    (l11 : K.lookup f11 = some ⟨oc11, od11, .func (PySem.W.fnOf "_law_take" "_law_take" (defArgs s_law_take) (defBody s_law_take) (defScope s_law_take) .none kV11 dc11 pm11 an11 cd11 ct11), sl11⟩)
    (c11 : PySem.W.codeIn K cd11 "_law_take" = true)
    (k11 : PySem.W.keepIn K (.ref f11) = true)
    (a12 : PySem.W.nsIn K mainGlobals "_law_of" = some (some (.ref f12)))
    (l12 : K.lookup f12 = some ⟨oc12, od12, .func (PySem.W.fnOf "_law_of" "_law_of" (defArgs s_law_of) (defBody s_law_of) (defScope s_law_of) .none kV12 dc12 pm12 an12 cd12 ct12), sl12⟩)
    (c12 : PySem.W.codeIn K cd12 "_law_of" = true)
    (k12 : PySem.W.keepIn K (.ref f12) = true)
    (a13 : PySem.W.nsIn K mainGlobals "_law_pick" = some (some (.ref f13)))
    (l13 : K.lookup f13 = some ⟨oc13, od13, .func (PySem.W.fnOf "_law_pick" "_law_pick" (defArgs s_law_pick) (defBody s_law_pick) (defScope s_law_pick) .none kV13 dc13 pm13 an13 cd13 ct13), sl13⟩)
    (c13 : PySem.W.codeIn K cd13 "_law_pick" = true)
    (k13 : PySem.W.keepIn K (.ref f13) = true)
    (a14 : PySem.W.nsIn K mainGlobals "_law_values" = some (some (.ref f14)))
    (l14 : K.lookup f14 = some ⟨oc14, od14, .func (PySem.W.fnOf "_law_values" "_law_values" (defArgs s_law_values) (defBody s_law_values) (defScope s_law_values) .none kV14 dc14 pm14 an14 cd14 ct14), sl14⟩)
    (c14 : PySem.W.codeIn K cd14 "_law_values" = true)
    (k14 : PySem.W.keepIn K (.ref f14) = true)
    (a15 : PySem.W.nsIn K mainGlobals "_law_leans" = some (some (.ref f15)))
    (l15 : K.lookup f15 = some ⟨oc15, od15, .func (PySem.W.fnOf "_law_leans" "_law_leans" (defArgs s_law_leans) (defBody s_law_leans) (defScope s_law_leans) .none kV15 dc15 pm15 an15 cd15 ct15), sl15⟩)
    (c15 : PySem.W.codeIn K cd15 "_law_leans" = true)
    (k15 : PySem.W.keepIn K (.ref f15) = true)
    (a16 : PySem.W.nsIn K mainGlobals "_law_out" = some (some (.ref f16)))
    (l16 : K.lookup f16 = some ⟨oc16, od16, .func (PySem.W.fnOf "_law_out" "_law_out" (defArgs s_law_out) (defBody s_law_out) (defScope s_law_out) .none kV16 dc16 pm16 an16 cd16 ct16), sl16⟩)
    (c16 : PySem.W.codeIn K cd16 "_law_out" = true)
    (k16 : PySem.W.keepIn K (.ref f16) = true)
    (a17 : PySem.W.nsIn K mainGlobals "_law_stays" = some (some (.ref f17)))
    (l17 : K.lookup f17 = some ⟨oc17, od17, .func (PySem.W.fnOf "_law_stays" "_law_stays" (defArgs s_law_stays) (defBody s_law_stays) (defScope s_law_stays) .none kV17 dc17 pm17 an17 cd17 ct17), sl17⟩)
    (c17 : PySem.W.codeIn K cd17 "_law_stays" = true)
    (k17 : PySem.W.keepIn K (.ref f17) = true)
    (a18 : PySem.W.findCls K (.ref C_Lean) (.type "type") "by" = some (.get (.builtin "staticmethod.__get__") (.ref q18) .none (.ref C_Lean)))
    (b18 : PySem.W.recIn K q18 "staticmethod" = some (.ref f18 :: rs18))
    (l18 : K.lookup f18 = some ⟨oc18, od18, .func (PySem.W.fnOf "by" "Lean.by" (defArgs s_Lean_by) (defBody s_Lean_by) (defScope s_Lean_by) .none kV18 dc18 pm18 an18 cd18 ct18), sl18⟩)
    (c18 : PySem.W.codeIn K cd18 "Lean.by" = true)
    (k18 : PySem.W.keepIn K (.ref f18) = true)
    (a19 : PySem.W.nsIn K mainGlobals "_law_right" = some (some (.ref f19)))
    (l19 : K.lookup f19 = some ⟨oc19, od19, .func (PySem.W.fnOf "_law_right" "_law_right" (defArgs s_law_right) (defBody s_law_right) (defScope s_law_right) .none kV19 dc19 pm19 an19 cd19 ct19), sl19⟩)
    (c19 : PySem.W.codeIn K cd19 "_law_right" = true)
    (k19 : PySem.W.keepIn K (.ref f19) = true)
    (a20 : PySem.W.nsIn K mainGlobals "_law_box" = some (some (.ref f20)))
    (l20 : K.lookup f20 = some ⟨oc20, od20, .func (PySem.W.fnOf "_law_box" "_law_box" (defArgs s_law_box) (defBody s_law_box) (defScope s_law_box) .none kV20 dc20 pm20 an20 cd20 ct20), sl20⟩)
    (c20 : PySem.W.codeIn K cd20 "_law_box" = true)
    (k20 : PySem.W.keepIn K (.ref f20) = true)
    (a21 : PySem.W.nsIn K mainGlobals "law" = some (some (.ref f21)))
    (l21 : K.lookup f21 = some ⟨oc21, od21, .func (PySem.W.fnOf "law" "law" (defArgs s_law) (defBody s_law) (defScope s_law) .none kV21 dc21 pm21 an21 cd21 ct21), sl21⟩)
    (c21 : PySem.W.codeIn K cd21 "law" = true)
    (k21 : PySem.W.keepIn K (.ref f21) = true)
    (z_KEPT : PySem.W.nsIn K mainGlobals "KEPT" = some (some (.str "kept" t_KEPT)))
    (z_NEW : PySem.W.nsIn K mainGlobals "NEW" = some (some (.str "new" t_NEW)))
    (z_BOTH : PySem.W.nsIn K mainGlobals "BOTH" = some (some (.str "both" t_BOTH)))
    (z_RULES : PySem.W.nsIn K mainGlobals "RULES" = some (some (.ref TC_RULES)))
    (lz_RULES : K.lookup TC_RULES = some ⟨.type "tuple", odC_RULES, .seq [.str "kept" tC_RULES_0, .str "new" tC_RULES_1, .str "both" tC_RULES_2, .str "either" tC_RULES_3].toArray nC_RULES, slC_RULES⟩)
    (z0 : PySem.W.nsIn K mainGlobals "len" = some none)
    (z1 : PySem.W.nsIn K mainGlobals "abs" = some none)
    (z2 : PySem.W.nsIn K mainGlobals "int" = some none)
    (z3 : PySem.W.nsIn K mainGlobals "min" = some none)
    (z4 : PySem.W.nsIn K mainGlobals "max" = some none)
    (z5 : PySem.W.nsIn K mainGlobals "list" = some none)
    (z6 : PySem.W.nsIn K mainGlobals "tuple" = some none)
    (z7 : PySem.W.nsIn K mainGlobals "bool" = some none)
    (z8 : PySem.W.nsIn K mainGlobals "str" = some none)
    (z9 : PySem.W.nsIn K mainGlobals "range" = some none)
    (z10 : PySem.W.nsIn K mainGlobals "zip" = some none)
    (z11 : PySem.W.nsIn K mainGlobals "enumerate" = some none)
    (z12 : PySem.W.nsIn K mainGlobals "all" = some none)
    (z13 : PySem.W.nsIn K mainGlobals "any" = some none)
    (z14 : PySem.W.nsIn K mainGlobals "isinstance" = some none) :
    ∃ fd : FuncData, (∀ (s : Shared) (v : Value), BindsTo s fd ⟨[v], []⟩ [("_law_script", v)]) ∧ ∀ base : Heap, K.In base → base.Ns mainGlobals mg → FnOk l.prog w K mg base CX0 9 fa fd ["_law_script"] (spLaw K) := by
  have e := hfa.symm.trans (PySem.W.mg_of X G a21)
  cases e
  have B : Bt mg := ⟨PySem.W.mg_none_of X G z0, PySem.W.mg_none_of X G z1, PySem.W.mg_none_of X G z2, PySem.W.mg_none_of X G z3, PySem.W.mg_none_of X G z4, PySem.W.mg_none_of X G z5, PySem.W.mg_none_of X G z6, PySem.W.mg_none_of X G z7, PySem.W.mg_none_of X G z8, PySem.W.mg_none_of X G z9, PySem.W.mg_none_of X G z10, PySem.W.mg_none_of X G z11, PySem.W.mg_none_of X G z12, PySem.W.mg_none_of X G z13, PySem.W.mg_none_of X G z14⟩
  have F1 := fun_mk (st := s_law_cells) l1 c1 k1
  have F2 := fun_mk (st := s_Lean_init) l2 c2 k2
  have F3 := fun_mk (st := s_Lean_part) l3 c3 k3
  have F4 := fun_mk (st := s_tupled) l4 c4 k4
  have F5 := fun_mk (st := s_Lean_leans) l5 c5 k5
  have F6 := fun_mk (st := s_Lean_counts) l6 c6 k6
  have F7 := fun_mk (st := s_kept_by) l7 c7 k7
  have F8 := fun_mk (st := s_law_same) l8 c8 k8
  have F9 := fun_mk (st := s_is_rule) l9 c9 k9
  have F10 := fun_mk (st := s_law_hand_right) l10 c10 k10
  have F11 := fun_mk (st := s_law_take) l11 c11 k11
  have F12 := fun_mk (st := s_law_of) l12 c12 k12
  have F13 := fun_mk (st := s_law_pick) l13 c13 k13
  have F14 := fun_mk (st := s_law_values) l14 c14 k14
  have F15 := fun_mk (st := s_law_leans) l15 c15 k15
  have F16 := fun_mk (st := s_law_out) l16 c16 k16
  have F17 := fun_mk (st := s_law_stays) l17 c17 k17
  have F18 := fun_mk (st := s_Lean_by) l18 c18 k18
  have F19 := fun_mk (st := s_law_right) l19 c19 k19
  have F20 := fun_mk (st := s_law_box) l20 c20 k20
  have F21 := fun_mk (st := s_law) l21 c21 k21
  refine ⟨PySem.W.fnOf "law" "law" (defArgs s_law) (defBody s_law) (defScope s_law) .none kV21 dc21 pm21 an21 cd21 ct21, fun s v => .of_eq rfl, fun base _ _ => ?_⟩
  obtain ⟨cl, hc_Lean, hcall⟩ : ∃ cl : Nat → Addr, cl 0 = C_Lean ∧ ∀ c, cl c = C_Lean := ⟨fun c => match c with | 0 => C_Lean | _ => C_Lean, rfl, fun c => match c with | 0 => rfl | _ + 1 => rfl⟩
  subst hc_Lean
  have sC_Lean : SlX.SCls K (cl 0) := ⟨pg_Lean, ic_Lean, po_Lean, sa_Lean⟩
  have sI_Lean : SlX.SIsi K (cl 0) := ⟨ca_Lean, cn_Lean, ct_Lean, cm_Lean⟩
  have mC_Lean : mg "Lean" = some (.ref (cl 0)) := PySem.W.mg_of X G aC_Lean
  have L_Lean : ClS K cl 0 ["amount", "bottom", "top"] := ⟨sC_Lean, fun i f h => match i, h with | 0, h => ⟨p_Lean_0, by cases h; exact ⟨sa0_Lean, sg0_Lean, st0_Lean, sy0_Lean, sx0_Lean, by decide⟩⟩ | 1, h => ⟨p_Lean_1, by cases h; exact ⟨sa1_Lean, sg1_Lean, st1_Lean, sy1_Lean, sx1_Lean, by decide⟩⟩ | 2, h => ⟨p_Lean_2, by cases h; exact ⟨sa2_Lean, sg2_Lean, st2_Lean, sy2_Lean, sx2_Lean, by decide⟩⟩ | i + 3, h => by simp at h⟩
  have G_KEPT : ∃ t, mg "KEPT" = some (.str "kept" t) := ⟨_, PySem.W.mg_of X G z_KEPT⟩
  have G_NEW : ∃ t, mg "NEW" = some (.str "new" t) := ⟨_, PySem.W.mg_of X G z_NEW⟩
  have G_BOTH : ∃ t, mg "BOTH" = some (.str "both" t) := ⟨_, PySem.W.mg_of X G z_BOTH⟩
  have G_RULES : ∃ a : Addr, mg "RULES" = some (.ref a) ∧ ∀ F, Rep K cl F (.ref a) (.tup [.str "kept", .str "new", .str "both", .str "either"]) := conT_mk ["kept", "new", "both", "either"] (PySem.W.mg_of X G z_RULES) lz_RULES (.cons ⟨_, rfl⟩ (.cons ⟨_, rfl⟩ (.cons ⟨_, rfl⟩ (.cons ⟨_, rfl⟩ .nil)))) (by simp)
  have S_law_cells := fs_law_cells (P := l.prog) (w := w) (base := base) (cl := cl) F1 (PySem.W.mg_of X G a1) B
  have S_Lean_init := fs_Lean_init (P := l.prog) (w := w) (base := base) (cl := cl) F2 ⟨mk_Lean, a2, i2, kp_Lean⟩ mC_Lean B L_Lean (mbSeq_ne mbTup_ne)
  have A_Lean_part := fa_Lean_part (P := l.prog) (w := w) (base := base) (cl := cl) F3 B S_Lean_init
  have S_Lean_part : FT l.prog w K mg base cl 3 "Lean" "part" 2 m_Lean_part := ⟨_, _, mC_Lean, ⟨.type "type", _, _, rd_Lean, ga_Lean, a3, b3⟩, A_Lean_part⟩
  have S_tupled := fs_tupled (P := l.prog) (w := w) (base := base) (cl := cl) F4 (PySem.W.mg_of X G a4) B
  have A_Lean_leans := fa_Lean_leans (P := l.prog) (w := w) (base := base) (cl := cl) F5 B L_Lean
  have S_Lean_leans : FM l.prog w K mg base cl 1 0 "leans" 3 m_Lean_leans := ⟨sC_Lean, _, ⟨a5, i5, k5⟩, A_Lean_leans⟩
  have A_Lean_counts := fa_Lean_counts (P := l.prog) (w := w) (base := base) (cl := cl) F6 B S_Lean_leans G_KEPT G_NEW G_BOTH
  have S_Lean_counts : FM l.prog w K mg base cl 2 0 "counts" 4 m_Lean_counts := ⟨sC_Lean, _, ⟨a6, i6, k6⟩, A_Lean_counts⟩
  have S_kept_by := fs_kept_by (P := l.prog) (w := w) (base := base) (cl := cl) F7 (PySem.W.mg_of X G a7) B S_tupled S_Lean_counts
  have K_kept_by_0 := fk_kept_by_0 (P := l.prog) (w := w) (base := base) (cl := cl) F7 (PySem.W.mg_of X G a7) B S_tupled S_Lean_counts
  have S_law_same := fs_law_same (P := l.prog) (w := w) (base := base) (cl := cl) F8 (PySem.W.mg_of X G a8) B
  have S_is_rule := fs_is_rule (P := l.prog) (w := w) (base := base) (cl := cl) F9 (PySem.W.mg_of X G a9) B G_RULES
  have K_is_rule_0 := fk_is_rule_0 (P := l.prog) (w := w) (base := base) (cl := cl) F9 (PySem.W.mg_of X G a9) B G_RULES
  have S_law_hand_right := fs_law_hand_right (P := l.prog) (w := w) (base := base) (cl := cl) F10 (PySem.W.mg_of X G a10) B S_Lean_part S_kept_by S_law_same S_is_rule K_is_rule_0
  have S_law_take := fs_law_take (P := l.prog) (w := w) (base := base) (cl := cl) F11 (PySem.W.mg_of X G a11) B
  have S_law_of := fs_law_of (P := l.prog) (w := w) (base := base) (cl := cl) F12 (PySem.W.mg_of X G a12) B S_law_take
  have S_law_pick := fs_law_pick (P := l.prog) (w := w) (base := base) (cl := cl) F13 (PySem.W.mg_of X G a13) B S_law_take
  have S_law_values := fs_law_values (P := l.prog) (w := w) (base := base) (cl := cl) F14 (PySem.W.mg_of X G a14) B S_law_take S_law_of S_law_pick
  have S_law_leans := fs_law_leans (P := l.prog) (w := w) (base := base) (cl := cl) F15 (PySem.W.mg_of X G a15) B
  have S_law_out := fs_law_out (P := l.prog) (w := w) (base := base) (cl := cl) F16 (PySem.W.mg_of X G a16) B S_law_leans
  have S_law_stays := fs_law_stays (P := l.prog) (w := w) (base := base) (cl := cl) F17 (PySem.W.mg_of X G a17) B S_law_out
  have A_Lean_by := fa_Lean_by (P := l.prog) (w := w) (base := base) (cl := cl) F18 B S_Lean_init
  have S_Lean_by : FT l.prog w K mg base cl 3 "Lean" "by" 1 m_Lean_by := ⟨_, _, mC_Lean, ⟨.type "type", _, _, rd_Lean, ga_Lean, a18, b18⟩, A_Lean_by⟩
  have S_law_right := fs_law_right (P := l.prog) (w := w) (base := base) (cl := cl) F19 (PySem.W.mg_of X G a19) B S_law_hand_right S_law_of S_law_values S_Lean_init S_law_take S_law_stays K_kept_by_0 S_kept_by S_law_same S_Lean_by
  have S_law_box := fs_law_box (P := l.prog) (w := w) (base := base) (cl := cl) F20 (PySem.W.mg_of X G a20) B
  exact law_end (ok_law F21 B S_law_cells S_law_right S_law_box) law_true
end NS
open PySem PySem.W PyProof.Rows
set_option maxRecDepth 100000 in
set_option maxHeartbeats 0 in
theorem PySem.Challenge.cw_nearsame_k58_what_is_kept_by_each_rule_holds : PySem.Challenge.rw_nearsame_k58_what_is_kept_by_each_rule.Holds := by
  w_on; o_law; k_head; (case hw => w_witness2)
  k_fill
  refine DL.walk (l := PySem.Challenge.rw_nearsame_k58_what_is_kept_by_each_rule) (k := 9) (by decide) rfl rfl (fun w h Y => PySem.W.kIn_of Y) ?F
  case F =>
    intro w mg fa h KX G hmg
    refine' NS.all_mk KX G hmg ?aC_Lean ?pg_Lean ?ic_Lean ?po_Lean ?sa_Lean ?ca_Lean ?cn_Lean ?ct_Lean ?cm_Lean ?mk_Lean ?kp_Lean ?sf_Lean ?rd_Lean ?ga_Lean ?ty_Lean ?subbool_Lean ?subint_Lean ?substr_Lean ?subtuple_Lean ?sublist_Lean ?busNoneType_Lean ?busbool_Lean ?busint_Lean ?busstr_Lean ?bustuple_Lean ?buslist_Lean ?sa0_Lean ?sg0_Lean ?st0_Lean ?sy0_Lean ?sx0_Lean ?sa1_Lean ?sg1_Lean ?st1_Lean ?sy1_Lean ?sx1_Lean ?sa2_Lean ?sg2_Lean ?st2_Lean ?sy2_Lean ?sx2_Lean ?own_Lean_Lean ?a1 ?l1 ?c1 ?k1 ?a2 ?l2 ?c2 ?k2 ?i2 ?a3 ?b3 ?l3 ?c3 ?k3 ?a4 ?l4 ?c4 ?k4 ?a5 ?l5 ?c5 ?k5 ?i5 ?a6 ?l6 ?c6 ?k6 ?i6 ?a7 ?l7 ?c7 ?k7 ?a8 ?l8 ?c8 ?k8 ?a9 ?l9 ?c9 ?k9 ?a10 ?l10 ?c10 ?k10 ?a11 ?l11 ?c11 ?k11 ?a12 ?l12 ?c12 ?k12 ?a13 ?l13 ?c13 ?k13 ?a14 ?l14 ?c14 ?k14 ?a15 ?l15 ?c15 ?k15 ?a16 ?l16 ?c16 ?k16 ?a17 ?l17 ?c17 ?k17 ?a18 ?b18 ?l18 ?c18 ?k18 ?a19 ?l19 ?c19 ?k19 ?a20 ?l20 ?c20 ?k20 ?a21 ?l21 ?c21 ?k21 ?z_KEPT ?z_NEW ?z_BOTH ?z_RULES ?lz_RULES ?z0 ?z1 ?z2 ?z3 ?z4 ?z5 ?z6 ?z7 ?z8 ?z9 ?z10 ?z11 ?z12 ?z13 ?z14
    case aC_Lean => k_is
    case pg_Lean => k_is
    case ic_Lean => k_is
    case po_Lean => k_is
    case sa_Lean => k_is
    case ca_Lean => k_is
    case cn_Lean => k_is
    case ct_Lean => k_is
    case cm_Lean => k_is
    case mk_Lean => k_is
    case kp_Lean => k_is
    case sf_Lean => k_is
    case rd_Lean => k_is
    case ga_Lean => k_is
    case ty_Lean => k_is
    case subbool_Lean => k_is
    case subint_Lean => k_is
    case substr_Lean => k_is
    case subtuple_Lean => k_is
    case sublist_Lean => k_is
    case busNoneType_Lean => k_is
    case busbool_Lean => k_is
    case busint_Lean => k_is
    case busstr_Lean => k_is
    case bustuple_Lean => k_is
    case buslist_Lean => k_is
    case sa0_Lean => k_is
    case sg0_Lean => k_is
    case st0_Lean => k_is
    case sy0_Lean => k_is
    case sx0_Lean => k_is
    case sa1_Lean => k_is
    case sg1_Lean => k_is
    case st1_Lean => k_is
    case sy1_Lean => k_is
    case sx1_Lean => k_is
    case sa2_Lean => k_is
    case sg2_Lean => k_is
    case st2_Lean => k_is
    case sy2_Lean => k_is
    case sx2_Lean => k_is
    case own_Lean_Lean => k_is
    case a1 => k_is
    case l1 => k_is
    case c1 => k_is
    case k1 => k_is
    case a2 => k_is
    case l2 => k_is
    case c2 => k_is
    case k2 => k_is
    case i2 => k_is
    case a3 => k_is
    case b3 => k_is
    case l3 => k_is
    case c3 => k_is
    case k3 => k_is
    case a4 => k_is
    case l4 => k_is
    case c4 => k_is
    case k4 => k_is
    case a5 => k_is
    case l5 => k_is
    case c5 => k_is
    case k5 => k_is
    case i5 => k_is
    case a6 => k_is
    case l6 => k_is
    case c6 => k_is
    case k6 => k_is
    case i6 => k_is
    case a7 => k_is
    case l7 => k_is
    case c7 => k_is
    case k7 => k_is
    case a8 => k_is
    case l8 => k_is
    case c8 => k_is
    case k8 => k_is
    case a9 => k_is
    case l9 => k_is
    case c9 => k_is
    case k9 => k_is
    case a10 => k_is
    case l10 => k_is
    case c10 => k_is
    case k10 => k_is
    case a11 => k_is
    case l11 => k_is
    case c11 => k_is
    case k11 => k_is
    case a12 => k_is
    case l12 => k_is
    case c12 => k_is
    case k12 => k_is
    case a13 => k_is
    case l13 => k_is
    case c13 => k_is
    case k13 => k_is
    case a14 => k_is
    case l14 => k_is
    case c14 => k_is
    case k14 => k_is
    case a15 => k_is
    case l15 => k_is
    case c15 => k_is
    case k15 => k_is
    case a16 => k_is
    case l16 => k_is
    case c16 => k_is
    case k16 => k_is
    case a17 => k_is
    case l17 => k_is
    case c17 => k_is
    case k17 => k_is
    case a18 => k_is
    case b18 => k_is
    case l18 => k_is
    case c18 => k_is
    case k18 => k_is
    case a19 => k_is
    case l19 => k_is
    case c19 => k_is
    case k19 => k_is
    case a20 => k_is
    case l20 => k_is
    case c20 => k_is
    case k20 => k_is
    case a21 => k_is
    case l21 => k_is
    case c21 => k_is
    case k21 => k_is
    case z_KEPT => k_is
    case z_NEW => k_is
    case z_BOTH => k_is
    case z_RULES => k_is
    case lz_RULES => k_is
    case z0 => k_is
    case z1 => k_is
    case z2 => k_is
    case z3 => k_is
    case z4 => k_is
    case z5 => k_is
    case z6 => k_is
    case z7 => k_is
    case z8 => k_is
    case z9 => k_is
    case z10 => k_is
    case z11 => k_is
    case z12 => k_is
    case z13 => k_is
    case z14 => k_is
