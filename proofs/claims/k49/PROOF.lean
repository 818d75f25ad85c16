import PyProof.Rows.All
import Wide.All
import OpenK.AllK
import Wide.FinOn
import HandS.ForMost
import HandS.Walk
import HandS.Flow
import HandS.TupAny
import HandS.IsInst
import HandS.Zip
import HandS.Conv
import HandS.Slots
import HandS.Defaults
import KE.LtData
import HandS.MakeKwOnly
import HandS.SlotsOwn
import HandS.ClsMeth
import HandS.Star
import HandS.Deep
import HandS.Style
import KE.KUnpack
import HandS.TupLe
import HandS.SortInts
import KE.GoesMore
import PyProof.EnumMake
import HandS.TupMul
import KE.KDictList
import PyProof.AutoSeq1
import HandS.GenList
import HandS.SetFor
import HandS.DictComp
import HandS.ExcInit
import HandS.FStr
import HandS.Nested
import KE.KExcSuper
import HandS.ExcOwn
import HandS.WordsExc
import KE.KTryMore
import HandS.ExcField
import HandS.ExcIs
import KE.KDictWalk
import KE.KDictDisplayH
import PySem.Challenge.RW_nearsame_k49_finer_and_common_grids
set_option Elab.async false
set_option linter.all false
set_option maxRecDepth 100000
set_option maxHeartbeats 1000000

namespace DL
open PySem L2

inductive D where
  | non | bl (b : Bool) | int (i : Int) | str (x : Str) | tup (xs : List D) | lst (xs : List D) | scr (xs : List Int) | ins (c : Nat) (xs : List D)
  /-- a caught exception: its class, its fields; a dict by ints and texts, by tuples of these -/
  | exc (c : Nat) (ns : List Str) (xs : List D) | dk (ks : List Key) (xs : List D) | dt (ks : List (List Int)) (xs : List D)
/-- what stands in a list, a dict: plain data, or another cell -/
inductive El where
  | d (x : D) | c (j : Nat)
/-- a cell: a list of plain data; a list of anything; a dict by ints and texts, by tuples of these -/
inductive Cel where
  | l (xs : List D) | n (es : List El) | dk (lk : Bool) (kvs : List (Key × El)) | dt (lk : Bool) (kvs : List (List Int × El)) | t (es : List El) | o (c j : Nat) (pd : List (Option El)) | x (b : Bool)
instance : Coe (List D) Cel := ⟨Cel.l⟩
inductive R where
  | no | dat (d : D) | cel (k : Nat) | fr (xs : List D) | fc (c : Cel)
abbrev Mu := List Cel
abbrev Sl := List R
inductive Flo where
  | nx (δ : Sl) (μ : Mu) | rt (r : R) (μ : Mu) | bk (δ : Sl) (μ : Mu) | ct (δ : Sl) (μ : Mu)
abbrev ME := Sl → Mu → Option (R × Mu)
abbrev MT := Sl → Mu → Option (Bool × Mu)
abbrev MA := Sl → Mu → Option (List R × Mu)
abbrev MS := Sl → Mu → Option Flo

/-- at a: an exception of the class at C, its own dict -/
def exv (a C : Addr) (d : Option Addr) : HO := .ext fun h => ∃ (oe : Obj) (vs : Array Value), h.get? a = some oe ∧ oe.cls = .ref C ∧ oe.dict = d ∧ oe.data = .fields vs
/-- an object, or the same one while it is walked over -/
def Lkd (o : Option HO) (u : HO) : Bool → Prop
  | false => o = some u
  | true => ∃ od, o = some (.frz od u)
/-- a dict whose keys are tuples of ints: its object by its exact entries -/
def hsT (ks : List Int) : Int := reduceHash (Builtin.Tuple.tupleHashOf (ks.map hashInt))
def enT (x : List Int × Addr × Value) : DictEntry := ⟨hsT x.1, .ref x.2.1, x.2.2⟩
def phT (a : Addr) (xs : List (List Int × Addr × Value)) (h : Heap) : Prop := ∃ o es ep, h.get? a = some o ∧ o.ExactDict ∧ o.data = .dict es ep ∧ es.toList = xs.map enT
def DtH (K : PySem.W.Frag) (F : Hp) (a : Addr) (o : Option HO) (b : Bool) (us : List (List Int × V)) : Prop := ∃ xs : List (List Int × Addr × Value), Lkd o (.ext (phT a xs)) b ∧ (a == sysModules) = false ∧ us.length ≤ sizeLine ∧ (us.map (·.1)).Nodup ∧ Paired (fun (p : List Int × V) (q : List Int × Addr × Value) => p.1 = q.1 ∧ SqT K F q.2.1 (p.1.map V.int) ∧ RelV p.2 q.2.2) us xs
def DtL (K : PySem.W.Frag) (F : Hp) (a : Addr) (us : List (List Int × V)) : Prop := DtH K F a (F a) false us
mutual
inductive Rep (K : PySem.W.Frag) (cl : Nat → Addr) (F : Hp) : V → D → Prop
  | non : Rep K cl F .non .non
  | bl (b : Bool) : Rep K cl F (.bl b) (.bl b)
  | int (i : Int) : Rep K cl F (.int i) (.int i)
  | str (x : Str) : Rep K cl F (.str x) (.str x)
  | tup {a : Addr} {vs : List V} {xs : List D} : SqT K F a vs → Reps K cl F vs xs → Rep K cl F (.ref a) (.tup xs)
  | lst {a : Addr} {vs : List V} {xs : List D} : F a = some (.lst vs) → Reps K cl F vs xs → Rep K cl F (.ref a) (.lst xs)
  | scr {a : Addr} {ns : List Int} : SqL K F a (ns.map V.int) → Rep K cl F (.ref a) (.scr ns)
  | ins {a dx : Addr} {c : Nat} {vs : List V} {xs : List D} : SlX.Slt F a (cl c) dx (vs.map some) → F a = some (SlX.SlO a (cl c) dx (vs.map some)) → Reps K cl F vs xs → Rep K cl F (.ref a) (.ins c xs)
  | exc0 {a : Addr} {c : Nat} : F a = some (exv a (cl c) none) → Rep K cl F (.ref a) (.exc c [] [])
  | exc {a dd : Addr} {c : Nat} {ns : List Str} {vs : List V} {xs : List D} : F a = some (exv a (cl c) (some dd)) → F dd = some (.xd (ns.zip vs)) → ns.length = xs.length → Reps K cl F vs xs → Rep K cl F (.ref a) (.exc c ns xs)
  | dk {a : Addr} {ks : List Key} {vs : List V} {xs : List D} : F a = some (.dK (ks.zip vs)) → ks.length = xs.length → Reps K cl F vs xs → Rep K cl F (.ref a) (.dk ks xs)
  | dt {a : Addr} {us : List (List Int × V)} {ks : List (List Int)} {xs : List D} : DtL K F a us → us.map (·.1) = ks → Reps K cl F (us.map (·.2)) xs → Rep K cl F (.ref a) (.dt ks xs)
inductive Reps (K : PySem.W.Frag) (cl : Nat → Addr) (F : Hp) : List V → List D → Prop
  | nil : Reps K cl F [] []
  | cons {v : V} {d : D} {vs : List V} {ds : List D} : Rep K cl F v d → Reps K cl F vs ds → Reps K cl F (v :: vs) (d :: ds)
end

theorem Same.sqT {K : PySem.W.Frag} {H H' : Hp} {a : Addr} {xs : List V} (e : Same H H') (h : SqT K H a xs) : SqT K H' a xs := by
  rcases h with (h | ⟨o, h⟩) | h
  · exact .inl (.inl (e _ _ h))
  · exact .inl (.inr ⟨o, e _ _ h⟩)
  · exact .inr h
theorem Same.slt {H H' : Hp} {a C dx : Addr} {vs : List (Option V)} (e : Same H H') (h : SlX.Slt H a C dx vs) : SlX.Slt H' a C dx vs := by
  rcases h with ⟨h1, h2⟩ | ⟨h1, h2⟩
  · exact .inl ⟨e _ _ h1, h2⟩
  · exact .inr ⟨e _ _ h1, e _ _ h2⟩
theorem DtH.mono {K : PySem.W.Frag} {F F' : Hp} {a : Addr} {o : Option HO} {b : Bool} {us : List (List Int × V)} (sm : Same F F') (h : DtH K F a o b us) : DtH K F' a o b us := by
  obtain ⟨xs, h1, h2, h3, h4, h5⟩ := h
  exact ⟨xs, h1, h2, h3, h4, L2.Paired.mapP h5 fun p q z => ⟨z.1, Same.sqT sm z.2.1, z.2.2⟩⟩
theorem DtL.mono {K : PySem.W.Frag} {F F' : Hp} {a : Addr} {us : List (List Int × V)} (sm : Same F F') (h : DtL K F a us) : DtL K F' a us := by
  obtain ⟨xs, h1, h2, h3, h4, h5⟩ := DtH.mono sm h
  exact ⟨xs, sm _ _ h1, h2, h3, h4, h5⟩
mutual
theorem Rep.mono {K : PySem.W.Frag} {cl : Nat → Addr} {F F' : Hp} (e : Same F F') : ∀ {v : V} {d : D}, Rep K cl F v d → Rep K cl F' v d
  | _, _, .non => .non
  | _, _, .bl b => .bl b
  | _, _, .int i => .int i
  | _, _, .str x => .str x
  | _, _, .tup h r => .tup (Same.sqT e h) (Reps.mono e r)
  | _, _, .lst h r => .lst (e _ _ h) (Reps.mono e r)
  | _, _, .scr h => .scr (e.seq h)
  | _, _, .ins h q r => .ins (Same.slt e h) (e _ _ q) (Reps.mono e r)
  | _, _, .exc0 h => .exc0 (e _ _ h)
  | _, _, .exc h q l r => .exc (e _ _ h) (e _ _ q) l (Reps.mono e r)
  | _, _, .dk h l r => .dk (e _ _ h) l (Reps.mono e r)
  | _, _, .dt h l r => .dt (DtL.mono e h) l (Reps.mono e r)
theorem Reps.mono {K : PySem.W.Frag} {cl : Nat → Addr} {F F' : Hp} (e : Same F F') : ∀ {vs : List V} {ds : List D}, Reps K cl F vs ds → Reps K cl F' vs ds
  | _, _, .nil => .nil
  | _, _, .cons r q => .cons (Rep.mono e r) (Reps.mono e q)
end
section
variable {K : PySem.W.Frag} {cl : Nat → Addr} {F F' F1 F2 H H0 H' H1 H2 : Hp} {α α' α1 α2 : List Addr} {μ μ' μ1 μ2 : Mu} {σ σ' : L2.St} {δ δ' : Sl} {v w x y : V} {vs us : List V} {d d' : D} {ds es : List D} {r r' : R}
theorem Reps.length : ∀ {vs : List V} {ds : List D}, Reps K cl F vs ds → vs.length = ds.length
  | _, _, .nil => rfl
  | _, _, .cons _ q => congrArg (· + 1) (Reps.length q)
theorem Reps.get : ∀ {vs : List V} {ds : List D} {i : Nat} {d : D}, Reps K cl F vs ds → ds[i]? = some d → ∃ v, vs[i]? = some v ∧ Rep K cl F v d
  | _, _, _, _, .nil, h => by simp at h
  | _, _, 0, _, .cons r _, h => by
    simp at h
    subst h
    exact ⟨_, rfl, r⟩
  | _, _, i + 1, _, .cons _ q, h => by
    obtain ⟨v, e, r⟩ := Reps.get (i := i) q (by simpa using h)
    exact ⟨v, by simpa using e, r⟩
theorem Reps.append : ∀ {vs us : List V} {ds es : List D}, Reps K cl F vs ds → Reps K cl F us es → Reps K cl F (vs ++ us) (ds ++ es)
  | _, _, _, _, .nil, q => q
  | _, _, _, _, .cons r q, s => .cons r (Reps.append q s)
theorem Reps.take : ∀ {vs : List V} {ds : List D} (n : Nat), Reps K cl F vs ds → Reps K cl F (vs.take n) (ds.take n)
  | _, _, 0, _ => .nil
  | _, _, _ + 1, .nil => .nil
  | _, _, n + 1, .cons r q => .cons r (Reps.take n q)
theorem Reps.drop : ∀ {vs : List V} {ds : List D} (n : Nat), Reps K cl F vs ds → Reps K cl F (vs.drop n) (ds.drop n)
  | _, _, 0, q => q
  | _, _, _ + 1, .nil => .nil
  | _, _, n + 1, .cons _ q => Reps.drop n q
theorem Reps.set : ∀ {vs : List V} {ds : List D} (n : Nat) {v : V} {d : D}, Rep K cl F v d → Reps K cl F vs ds → Reps K cl F (vs.set n v) (ds.set n d)
  | _, _, _, _, _, _, .nil => .nil
  | _, _, 0, _, _, r, .cons _ q => .cons r q
  | _, _, n + 1, _, _, r, .cons q s => .cons q (Reps.set n r s)
theorem Reps.flat (k : Nat) (q : Reps K cl F vs ds) : Reps K cl F (List.replicate k vs).flatten (List.replicate k ds).flatten := by
  induction k with
  | zero => exact .nil
  | succ k ih =>
    rw [List.replicate_succ, List.replicate_succ, List.flatten_cons, List.flatten_cons]
    exact q.append ih
theorem Reps.ints : ∀ (ns : List Int), Reps K cl F (ns.map V.int) (ns.map D.int)
  | [] => .nil
  | _ :: ns => .cons (.int _) (Reps.ints ns)
theorem Reps.of_ints : ∀ {vs : List V} {ns : List Int}, Reps K cl F vs (ns.map D.int) → vs = ns.map V.int
  | _, [], h => by
    cases h
    rfl
  | _, n :: ns, h => by
    cases h with
    | cons r q =>
      cases r
      rw [Reps.of_ints q]
      rfl


def ElR (K : PySem.W.Frag) (cl : Nat → Addr) (F : Hp) (α : List Addr) (v : V) : El → Prop
  | .d x => Rep K cl F v x
  | .c j => ∃ a : Addr, α[j]? = some a ∧ v = .ref a
inductive ElRs (K : PySem.W.Frag) (cl : Nat → Addr) (F : Hp) (α : List Addr) : List V → List El → Prop
  | nil : ElRs K cl F α [] []
  | cons {v : V} {e : El} {vs : List V} {es : List El} : ElR K cl F α v e → ElRs K cl F α vs es → ElRs K cl F α (v :: vs) (e :: es)
inductive KvRs {κ : Type} (K : PySem.W.Frag) (cl : Nat → Addr) (F : Hp) (α : List Addr) : List (κ × V) → List (κ × El) → Prop
  | nil : KvRs K cl F α [] []
  | cons {k : κ} {v : V} {e : El} {vs : List (κ × V)} {es : List (κ × El)} : ElR K cl F α v e → KvRs K cl F α vs es → KvRs K cl F α ((k, v) :: vs) ((k, e) :: es)
/-- the slots of an instance that is being made -/
def PdR (K : PySem.W.Frag) (cl : Nat → Addr) (F : Hp) (α : List Addr) (vs : List (Option V)) (pd : List (Option El)) : Prop := vs.length = pd.length ∧ ∀ (i : Nat) (e : El), pd[i]? = some (some e) → ∃ v, vs[i]? = some (some v) ∧ ElR K cl F α v e
def CellOk (K : PySem.W.Frag) (cl : Nat → Addr) (F : Hp) (α : List Addr) (a : Addr) (o : Option HO) : Cel → Prop
  | .l xs => ∃ vs, o = some (.lst vs) ∧ Reps K cl F vs xs
  | .n es => ∃ vs, o = some (.lst vs) ∧ ElRs K cl F α vs es
  | .dk b kvs => ∃ us, Lkd o (.dK us) b ∧ KvRs K cl F α us kvs
  | .dt b kvs => ∃ us, DtH K F a o b us ∧ KvRs K cl F α us kvs
  | .t es => ∃ vs, o = some (.tup vs) ∧ ElRs K cl F α vs es
  | .o c j pd => ∃ dx vs, ((o = some (.ins (cl c) dx []) ∧ vs = []) ∨ (o = some (SlX.SlO a (cl c) dx vs) ∧ vs ≠ [])) ∧ α[j]? = some dx ∧ PdR K cl F α vs pd
  | .x b => ∃ z, o = some (if b then .xd [] else .own z)
theorem ElR.mono {e : El} (sm : Same F F') (ex : ∃ x, α' = α ++ x) (h : ElR K cl F α v e) : ElR K cl F' α' v e := by
  cases e with
  | d x => exact Rep.mono sm h
  | c j =>
    obtain ⟨a, h1, h2⟩ := h
    obtain ⟨x, rfl⟩ := ex
    exact ⟨a, by rw [List.getElem?_append_left (List.getElem?_eq_some_iff.mp h1).1]; exact h1, h2⟩
theorem ElRs.mono (sm : Same F F') (ex : ∃ x, α' = α ++ x) : ∀ {vs : List V} {es : List El}, ElRs K cl F α vs es → ElRs K cl F' α' vs es
  | _, _, .nil => .nil
  | _, _, .cons r q => .cons (r.mono sm ex) (ElRs.mono sm ex q)
theorem KvRs.mono {κ : Type} (sm : Same F F') (ex : ∃ x, α' = α ++ x) : ∀ {vs : List (κ × V)} {es : List (κ × El)}, KvRs K cl F α vs es → KvRs K cl F' α' vs es
  | _, _, .nil => .nil
  | _, _, .cons r q => .cons (r.mono sm ex) (KvRs.mono sm ex q)
theorem PdR.mono {ps : List (Option V)} {pd : List (Option El)} (sm : Same F F') (ex : ∃ x, α' = α ++ x) (h : PdR K cl F α ps pd) : PdR K cl F' α' ps pd := ⟨h.1, fun i e q => by
  obtain ⟨v, h1, h2⟩ := h.2 i e q
  exact ⟨v, h1, h2.mono sm ex⟩⟩
theorem CellOk.mono {a : Addr} {o : Option HO} {c : Cel} (sm : Same F F') (ex : ∃ x, α' = α ++ x) (h : CellOk K cl F α a o c) : CellOk K cl F' α' a o c := by
  cases c with
  | o c j pd =>
    obtain ⟨dx, ps, h1, h2, h3⟩ := h
    refine ⟨dx, ps, h1, ?_, h3.mono sm ex⟩
    obtain ⟨x, rfl⟩ := ex
    rw [List.getElem?_append_left (List.getElem?_eq_some_iff.mp h2).1]
    exact h2
  | x b => exact h
  | l xs => exact ⟨h.choose, h.choose_spec.1, h.choose_spec.2.mono sm⟩
  | n es => exact ⟨h.choose, h.choose_spec.1, h.choose_spec.2.mono sm ex⟩
  | dk b kvs => exact ⟨h.choose, h.choose_spec.1, h.choose_spec.2.mono sm ex⟩
  | dt b kvs => exact ⟨h.choose, h.choose_spec.1.mono sm, h.choose_spec.2.mono sm ex⟩
  | t es => exact ⟨h.choose, h.choose_spec.1, h.choose_spec.2.mono sm ex⟩
theorem CellOk.monoF {a : Addr} {o : Option HO} {c : Cel} (sm : Same F F') (h : CellOk K cl F α a o c) : CellOk K cl F' α a o c := h.mono sm ⟨[], by simp⟩
theorem Lkd.some {o : Option HO} {u : HO} {b : Bool} (h : Lkd o u b) : ∃ x, o = Option.some x := by
  cases b with
  | false => exact ⟨_, h⟩
  | true => exact ⟨_, h.choose_spec⟩
theorem CellOk.some {a : Addr} {o : Option HO} {c : Cel} (h : CellOk K cl F α a o c) : ∃ u, o = Option.some u := by
  cases c with
  | o c j pd =>
    obtain ⟨dx, ps, h1, _⟩ := h
    rcases h1 with h1 | h1
    · exact ⟨_, h1.1⟩
    · exact ⟨_, h1.1⟩
  | x b => exact ⟨_, h.choose_spec⟩
  | l xs => exact ⟨_, h.choose_spec.1⟩
  | n es => exact ⟨_, h.choose_spec.1⟩
  | dk b kvs => exact h.choose_spec.1.some
  | dt b kvs => exact h.choose_spec.1.choose_spec.1.some
  | t es => exact ⟨_, h.choose_spec.1⟩
/-- the cells that it names are among the first n -/
def El.low (n : Nat) : El → Bool
  | .d _ => true
  | .c j => decide (j < n)
@[simp] def Cel.low (n : Nat) : Cel → Bool
  | .l _ => true
  | .n es => es.all (El.low n)
  | .dk b kvs => !b && kvs.all fun p => El.low n p.2
  | .dt b kvs => !b && kvs.all fun p => El.low n p.2
  | .t es => es.all (El.low n)
  | .o _ j pd => decide (j < n) && pd.all fun p => match p with
    | some e => El.low n e
    | none => true
  | .x _ => true
theorem ElR.cut {e : El} {x : List Addr} (h : ElR K cl F (α ++ x) v e) (q : El.low α.length e = true) : ElR K cl F α v e := by
  cases e with
  | d y => exact h
  | c j =>
    obtain ⟨a, h1, h2⟩ := h
    have hj : j < α.length := of_decide_eq_true q
    exact ⟨a, by rw [List.getElem?_append_left hj] at h1; exact h1, h2⟩
theorem ElRs.cut {x : List Addr} : ∀ {vs : List V} {es : List El}, ElRs K cl F (α ++ x) vs es → es.all (El.low α.length) = true → ElRs K cl F α vs es
  | _, _, .nil, _ => .nil
  | _, _, .cons r q, h => by
    rw [List.all_cons, Bool.and_eq_true] at h
    exact .cons (r.cut h.1) (ElRs.cut q h.2)
theorem KvRs.cut {κ : Type} {x : List Addr} : ∀ {vs : List (κ × V)} {es : List (κ × El)}, KvRs K cl F (α ++ x) vs es → es.all (fun p => El.low α.length p.2) = true → KvRs K cl F α vs es
  | _, _, .nil, _ => .nil
  | _, _, .cons r q, h => by
    rw [List.all_cons, Bool.and_eq_true] at h
    exact .cons (r.cut h.1) (KvRs.cut q h.2)
theorem CellOk.cut {a : Addr} {o : Option HO} {c : Cel} {x : List Addr} (h : CellOk K cl F (α ++ x) a o c) (q : c.low α.length = true) : CellOk K cl F α a o c := by
  cases c with
  | o c j pd =>
    obtain ⟨dx, ps, h1, h2, h3⟩ := h
    have q := Bool.and_eq_true_iff.mp q
    have hj : j < α.length := of_decide_eq_true q.1
    rw [List.getElem?_append_left hj] at h2
    refine ⟨dx, ps, h1, h2, h3.1, fun i e hi => ?_⟩
    obtain ⟨v, g1, g2⟩ := h3.2 i e hi
    exact ⟨v, g1, g2.cut (List.all_eq_true.mp q.2 (Option.some e) (List.mem_of_getElem? hi))⟩
  | x b => exact h
  | l xs => exact h
  | n es => exact ⟨h.choose, h.choose_spec.1, h.choose_spec.2.cut q⟩
  | dk b kvs => exact ⟨h.choose, h.choose_spec.1, h.choose_spec.2.cut (Bool.and_eq_true_iff.mp q).2⟩
  | dt b kvs => exact ⟨h.choose, h.choose_spec.1, h.choose_spec.2.cut (Bool.and_eq_true_iff.mp q).2⟩
  | t es => exact ⟨h.choose, h.choose_spec.1, h.choose_spec.2.cut q⟩
structure Conc (K : PySem.W.Frag) (cl : Nat → Addr) (F : Hp) (α : List Addr) (μ : Mu) (H : Hp) : Prop where
  sub : Same F H
  len : α.length = μ.length
  nd : α.Nodup
  cell : ∀ (k : Nat) (a : Addr) (c : Cel), α[k]? = some a → μ[k]? = some c → CellOk K cl F α a (H a) c
  out : ∀ a, a ∈ α → F a = none
structure Evo (F : Hp) (α : List Addr) (H F' : Hp) (α' : List Addr) (H' : Hp) : Prop where
  ff : Same F F'
  ext : ∃ e, α' = α ++ e
  hh : ∀ a o, H a = some o → a ∉ α → H' a = some o
  dom : ∀ a, H' a = none → H a = none
  fre : ∀ a o, F a = none → F' a = some o → H a = none
  fra : ∀ a, a ∈ α' → a ∉ α → H a = none
  frz : ∀ a x u, H a = some (.frz x u) → H' a = some (.frz x u)
theorem Evo.refl : Evo F α H F α H := ⟨Same.refl F, ⟨[], by simp⟩, fun _ _ h _ => h, fun _ h => h, fun _ _ h q => (by rw [h] at q; cases q), fun a h q => absurd h q, fun _ _ _ h => h⟩
theorem Evo.trans (a : Evo F α H F1 α1 H1) (b : Evo F1 α1 H1 F2 α2 H2) : Evo F α H F2 α2 H2 := by
  refine ⟨a.ff.trans b.ff, ?_, fun x o h q => b.hh x o (a.hh x o h q) fun z => ?_, fun x h => a.dom x (b.dom x h), fun x o h q => ?_, fun x h q => ?_, fun x o u h => b.frz x o u (a.frz x o u h)⟩
  · obtain ⟨e, rfl⟩ := a.ext
    obtain ⟨e', rfl⟩ := b.ext
    exact ⟨e ++ e', by rw [List.append_assoc]⟩
  · have := a.fra x z q
    rw [h] at this
    cases this
  · cases e : F1 x with
    | none => exact a.dom x (b.fre x o e q)
    | some u => exact a.fre x u h e
  · by_cases z : x ∈ α1
    · exact a.fra x z q
    · exact a.dom x (b.fra x h z)
def RepR (K : PySem.W.Frag) (cl : Nat → Addr) (H0 F : Hp) (α : List Addr) (H : Hp) (v : V) : R → Prop
  | .no => False
  | .dat d => Rep K cl F v d
  | .cel k => ∃ a : Addr, α[k]? = some a ∧ v = .ref a
  | .fr xs => ∃ a vs, v = .ref a ∧ H0 a = none ∧ F a = none ∧ a ∉ α ∧ H a = some (.lst vs) ∧ Reps K cl F vs xs
  | .fc c => ∃ a, v = .ref a ∧ H0 a = none ∧ F a = none ∧ a ∉ α ∧ CellOk K cl F α a (H a) c
theorem RepR.step (h : RepR K cl H0 F α H v r) (e : Evo F α H F' α' H') : RepR K cl H0 F' α' H' v r := by
  cases r with
  | no => exact h
  | dat d => exact Rep.mono e.ff h
  | cel k =>
    obtain ⟨a, h1, h2⟩ := h
    obtain ⟨x, rfl⟩ := e.ext
    exact ⟨a, by rw [List.getElem?_append_left (List.getElem?_eq_some_iff.mp h1).1]; exact h1, h2⟩
  | fr xs =>
    obtain ⟨a, vs, h1, h2, h3, h4, h5, h6⟩ := h
    refine ⟨a, vs, h1, h2, ?_, fun z => ?_, e.hh a _ h5 h4, h6.mono e.ff⟩
    · cases q : F' a with
      | none => rfl
      | some u =>
        have := e.fre a u h3 q
        rw [h5] at this
        cases this
    · have := e.fra a z h4
      rw [h5] at this
      cases this
  | fc c =>
    obtain ⟨a, h1, h2, h3, h4, h5⟩ := h
    obtain ⟨u, hu⟩ := h5.some
    refine ⟨a, h1, h2, ?_, fun z => ?_, ?_⟩
    · cases q : F' a with
      | none => rfl
      | some w =>
        have := e.fre a w h3 q
        rw [hu] at this
        cases this
    · have := e.fra a z h4
      rw [hu] at this
      cases this
    · rw [e.hh a u hu h4, ← hu]
      exact h5.mono e.ff e.ext
theorem RepR.back (h : RepR K cl H1 F α H v r) (k : ∀ a, H1 a = none → H0 a = none) : RepR K cl H0 F α H v r := by
  cases r with
  | no => exact h
  | dat d => exact h
  | cel k => exact h
  | fr xs =>
    obtain ⟨a, vs, h1, h2, h3⟩ := h
    exact ⟨a, vs, h1, k a h2, h3⟩
  | fc c =>
    obtain ⟨a, h1, h2, h3⟩ := h
    exact ⟨a, h1, k a h2, h3⟩
def EnvOk (K : PySem.W.Frag) (cl : Nat → Addr) (F : Hp) (α : List Addr) (σ : L2.St) (δ : Sl) : Prop :=
  δ.length = σ.length ∧ (∀ (i : Nat) (d : D), δ[i]? = some (.dat d) → ∃ v, σ[i]? = some (some v) ∧ Rep K cl F v d) ∧ ∀ (i k : Nat), δ[i]? = some (.cel k) → ∃ a, α[k]? = some a ∧ σ[i]? = some (some (.ref a))
theorem EnvOk.step (h : EnvOk K cl F α σ δ) (e : Evo F α H F' α' H') : EnvOk K cl F' α' σ δ := by
  refine ⟨h.1, fun i d q => ?_, fun i k q => ?_⟩
  · obtain ⟨v, h1, h2⟩ := h.2.1 i d q
    exact ⟨v, h1, h2.mono e.ff⟩
  · obtain ⟨a, h1, h2⟩ := h.2.2 i k q
    obtain ⟨x, rfl⟩ := e.ext
    exact ⟨a, by rw [List.getElem?_append_left (List.getElem?_eq_some_iff.mp h1).1]; exact h1, h2⟩
/-- a plain value stored into a slot -/
theorem EnvOk.put (h : EnvOk K cl F α σ δ) (i : Nat) (hv : Rep K cl F v d) : EnvOk K cl F α (σ.set i (some v)) (δ.set i (.dat d)) := by
  refine ⟨by simp [h.1], fun j d' q => ?_, fun j k q => ?_⟩
  · by_cases hj : i = j
    · subst hj
      have hi : i < δ.length := by
        have := (List.getElem?_eq_some_iff.mp q).1
        simpa using this
      rw [List.getElem?_set_self hi] at q
      cases q
      exact ⟨v, List.getElem?_set_self (by rw [← h.1]; exact hi), hv⟩
    · rw [List.getElem?_set_ne hj] at q
      rw [List.getElem?_set_ne hj]
      exact h.2.1 j d' q
  · by_cases hj : i = j
    · subst hj
      have hi : i < δ.length := by
        have := (List.getElem?_eq_some_iff.mp q).1
        simpa using this
      rw [List.getElem?_set_self hi] at q
      cases q
    · rw [List.getElem?_set_ne hj] at q
      rw [List.getElem?_set_ne hj]
      exact h.2.2 j k q
theorem EnvOk.putC (h : EnvOk K cl F α σ δ) (i : Nat) {k : Nat} {a : Addr} (hv : α[k]? = some a) : EnvOk K cl F α (σ.set i (some (.ref a))) (δ.set i (.cel k)) := by
  refine ⟨by simp [h.1], fun j d' q => ?_, fun j k' q => ?_⟩
  · by_cases hj : i = j
    · subst hj
      have hi : i < δ.length := by
        have := (List.getElem?_eq_some_iff.mp q).1
        simpa using this
      rw [List.getElem?_set_self hi] at q
      cases q
    · rw [List.getElem?_set_ne hj] at q
      rw [List.getElem?_set_ne hj]
      exact h.2.1 j d' q
  · by_cases hj : i = j
    · subst hj
      have hi : i < δ.length := by
        have := (List.getElem?_eq_some_iff.mp q).1
        simpa using this
      rw [List.getElem?_set_self hi] at q
      cases q
      exact ⟨a, hv, List.getElem?_set_self (by rw [← h.1]; exact hi)⟩
    · rw [List.getElem?_set_ne hj] at q
      rw [List.getElem?_set_ne hj]
      exact h.2.2 j k' q


theorem upd_some_ne {H : Hp} {a b : Addr} {o u : HO} (h : upd H a o b = some u) (q : b ≠ a) : H b = some u := by
  rw [upd_ne q] at h
  exact h
theorem same_upd {H : Hp} {p : Addr} {o : HO} (h : H p = none) : Same H (upd H p o) := fun b x e => by
  rw [upd_ne (ne_of_none e h)]
  exact e
@[simp] def froz : R → R
  | .fr xs => .dat (.lst xs)
  | r => r
@[simp] def toD : R → Option D
  | .dat d => some d
  | .fr xs => some (.lst xs)
  | _ => none
theorem freeze {F0 : Hp} {α0 : List Addr} (e : Evo F0 α0 H0 F α H) (c : Conc K cl F α μ H) (h : RepR K cl H0 F α H v r) :
    ∃ F', Evo F0 α0 H0 F' α H ∧ Conc K cl F' α μ H ∧ RepR K cl H0 F' α H v (froz r) := by
  cases r with
  | no => exact ⟨F, e, c, h⟩
  | dat d => exact ⟨F, e, c, h⟩
  | cel k => exact ⟨F, e, c, h⟩
  | fc c' => exact ⟨F, e, c, h⟩
  | fr xs =>
    obtain ⟨a, vs, h1, h2, h3, h4, h5, h6⟩ := h
    have sm : Same F (upd F a (.lst vs)) := same_upd h3
    refine ⟨upd F a (.lst vs), ⟨e.ff.trans sm, e.ext, e.hh, e.dom, fun b o hb hq => ?_, e.fra, e.frz⟩, ⟨fun b o hb => ?_, c.len, c.nd, fun k b ys h1 h2 => ?_, fun b hb => ?_⟩, ?_⟩
    · by_cases z : b = a
      · rw [z]
        exact h2
      · exact e.fre b o hb (upd_some_ne hq z)
    · by_cases z : b = a
      · subst z
        rw [upd_same] at hb
        cases hb
        exact h5
      · exact c.sub b o (upd_some_ne hb z)
    · exact (c.cell k b ys h1 h2).monoF sm
    · rw [upd_ne (show b ≠ a from fun z => h4 (by rw [← z]; exact hb))]
      exact c.out b hb
    · show Rep K cl _ v _
      rw [h1]
      exact .lst upd_same (h6.mono sm)
theorem froz_dat (h : toD r = some d) : froz r = .dat d := by
  cases r with
  | no => cases h
  | dat d' =>
    cases h
    rfl
  | cel k => cases h
  | fc c => cases h
  | fr xs =>
    cases h
    rfl
/-- a new frozen object -/
theorem Conc.new {p : Addr} {o : HO} (c : Conc K cl F α μ H) (hp : H p = none) : Evo F α H (upd F p o) α (upd H p o) ∧ Conc K cl (upd F p o) α μ (upd H p o) := by
  have fp : F p = none := by
    cases e : F p with
    | none => rfl
    | some u =>
      rw [c.sub p u e] at hp
      cases hp
  have pa : ∀ a, a ∈ α → a ≠ p := fun a ha z => by
    subst z
    obtain ⟨k, hk, ek⟩ := List.mem_iff_getElem.mp ha
    have hk2 : k < μ.length := by rw [← c.len]; exact hk
    obtain ⟨u, q⟩ := (c.cell k a μ[k] (by rw [List.getElem?_eq_getElem hk, ek]) (List.getElem?_eq_getElem hk2)).some
    rw [hp] at q
    cases q
  have sm : Same F (upd F p o) := same_upd fp
  refine ⟨⟨sm, ⟨[], by simp⟩, fun a u h _ => ?_, fun a h => ?_, fun a u h q => ?_, fun a h q => absurd h q, fun a x u h => by rw [upd_ne (ne_of_none h hp)]; exact h⟩, ⟨fun a u h => ?_, c.len, c.nd, fun k a xs h1 h2 => ?_, fun a h => ?_⟩⟩
  · rw [upd_ne (ne_of_none h hp)]
    exact h
  · by_cases z : a = p
    · rw [z]
      exact hp
    · rw [upd_ne z] at h
      exact h
  · by_cases z : a = p
    · rw [z]
      exact hp
    · have := upd_some_ne q z
      rw [h] at this
      cases this
  · by_cases z : a = p
    · subst z
      rw [upd_same] at h
      rw [upd_same]
      exact h
    · rw [upd_ne z]
      exact c.sub a u (upd_some_ne h z)
  · have q := c.cell k a xs h1 h2
    obtain ⟨u, q1⟩ := q.some
    rw [upd_ne (ne_of_none q1 hp)]
    exact q.monoF sm
  · rw [upd_ne (pa a h)]
    exact c.out a h
/-- a new list, not frozen -/
theorem Conc.newL {p : Addr} (c : Conc K cl F α μ H) (hp : H p = none) (q : Reps K cl F vs ds) : Evo F α H F α (upd H p (.lst vs)) ∧ Conc K cl F α μ (upd H p (.lst vs)) ∧ RepR K cl H F α (upd H p (.lst vs)) (.ref p) (.fr ds) := by
  have fp : F p = none := by
    cases e : F p with
    | none => rfl
    | some u =>
      rw [c.sub p u e] at hp
      cases hp
  have pa : p ∉ α := fun ha => by
    obtain ⟨k, hk, ek⟩ := List.mem_iff_getElem.mp ha
    have hk2 : k < μ.length := by rw [← c.len]; exact hk
    obtain ⟨u, q⟩ := (c.cell k p μ[k] (by rw [List.getElem?_eq_getElem hk, ek]) (List.getElem?_eq_getElem hk2)).some
    rw [hp] at q
    cases q
  refine ⟨⟨Same.refl F, ⟨[], by simp⟩, fun a u h _ => ?_, fun a h => ?_, fun a u h q => (by rw [h] at q; cases q), fun a h q => absurd h q, fun a x u h => by rw [upd_ne (ne_of_none h hp)]; exact h⟩, ⟨fun a u h => ?_, c.len, c.nd, fun k a xs h1 h2 => ?_, c.out⟩, ⟨p, vs, rfl, hp, fp, pa, upd_same, q⟩⟩
  · rw [upd_ne (ne_of_none h hp)]
    exact h
  · by_cases z : a = p
    · rw [z]
      exact hp
    · rw [upd_ne z] at h
      exact h
  · rw [upd_ne (ne_of_none (c.sub a u h) hp)]
    exact c.sub a u h
  · have q := c.cell k a xs h1 h2
    obtain ⟨u, q1⟩ := q.some
    rw [upd_ne (ne_of_none q1 hp)]
    exact q
end


def tm (K : PySem.W.Frag) (cl : Nat → Addr) (m : ME) : TE := fun σ H Q => ∃ F α δ μ r μ', Conc K cl F α μ H ∧ EnvOk K cl F α σ δ ∧ m δ μ = some (r, μ') ∧
  ∀ v F' H', Evo F α H F' α H' → Conc K cl F' α μ' H' → RepR K cl H F' α H' v r → Q v H'
def tmt (K : PySem.W.Frag) (cl : Nat → Addr) (m : MT) : TT := fun σ H Q => ∃ F α δ μ b μ', Conc K cl F α μ H ∧ EnvOk K cl F α σ δ ∧ m δ μ = some (b, μ') ∧
  ∀ F' H', Evo F α H F' α H' → Conc K cl F' α μ' H' → Q b H'
def ArgR (K : PySem.W.Frag) (cl : Nat → Addr) (F : Hp) (α : List Addr) (v : V) : R → Prop
  | .dat d => Rep K cl F v d
  | .cel k => ∃ a : Addr, α[k]? = some a ∧ v = .ref a
  | _ => False
inductive ArgRs (K : PySem.W.Frag) (cl : Nat → Addr) (F : Hp) (α : List Addr) : List V → List R → Prop
  | nil : ArgRs K cl F α [] []
  | cons {v : V} {r : R} {vs : List V} {rs : List R} : ArgR K cl F α v r → ArgRs K cl F α vs rs → ArgRs K cl F α (v :: vs) (r :: rs)
def tma (K : PySem.W.Frag) (cl : Nat → Addr) (m : MA) : TA := fun σ H Q => ∃ F α δ μ rs μ', Conc K cl F α μ H ∧ EnvOk K cl F α σ δ ∧ m δ μ = some (rs, μ') ∧
  ∀ vs F' H', Evo F α H F' α H' → Conc K cl F' α μ' H' → ArgRs K cl F' α vs rs → Q vs H'
def EndOk (K : PySem.W.Frag) (cl : Nat → Addr) (F : Hp) (α : List Addr) (H : Hp) (E : Ends) : Flo → Prop
  | .nx δ μ => ∀ F' α' σ' H', Evo F α H F' α' H' → Conc K cl F' α' μ H' → EnvOk K cl F' α' σ' δ → E.nx σ' H'
  | .bk δ μ => ∀ F' α' σ' H', Evo F α H F' α' H' → Conc K cl F' α' μ H' → EnvOk K cl F' α' σ' δ → E.bk σ' H'
  | .ct δ μ => ∀ F' α' σ' H', Evo F α H F' α' H' → Conc K cl F' α' μ H' → EnvOk K cl F' α' σ' δ → E.ct σ' H'
  | .rt r μ => ∀ v F' α' H', Evo F α H F' α' H' → Conc K cl F' α' μ H' → RepR K cl H F' α' H' v r → E.rt v H'
def tms (K : PySem.W.Frag) (cl : Nat → Addr) (m : MS) : TS := fun E σ H => ∃ F α δ μ fl, Conc K cl F α μ H ∧ EnvOk K cl F α σ δ ∧ m δ μ = some fl ∧ EndOk K cl F α H E fl
abbrev SE (X : Cx) (cl : Nat → Addr) (e : Expr) (m : ME) : Prop := PE X e (tm X.K cl m)
abbrev ST (X : Cx) (cl : Nat → Addr) (e : Expr) (m : MT) : Prop := PT X e (tmt X.K cl m)
abbrev SA (X : Cx) (cl : Nat → Addr) (es : List Expr) (m : MA) : Prop := PA X es (tma X.K cl m)
abbrev SS (X : Cx) (cl : Nat → Addr) (st : Stmt) (m : MS) : Prop := PS X st (tms X.K cl m)
abbrev SSs (X : Cx) (cl : Nat → Addr) (sts : List Stmt) (m : MS) : Prop := PSs X sts (tms X.K cl m)
theorem PE.weak {X : Cx} {e : Expr} {t t' : TE} (h : PE X e t) (k : ∀ σ H Q, t' σ H Q → t σ H Q) : PE X e t' := ⟨fun pins s σ H Q I hw => h.run pins s σ H Q I (k σ H Q hw)⟩
theorem PT.weak {X : Cx} {e : Expr} {t t' : TT} (h : PT X e t) (k : ∀ σ H Q, t' σ H Q → t σ H Q) : PT X e t' := ⟨fun pins s σ H Q I hw => h.run pins s σ H Q I (k σ H Q hw)⟩
theorem PW.weak {X : Cx} {e : Expr} {t t' : TT} (h : PW X e t) (k : ∀ σ H Q, t' σ H Q → t σ H Q) : PW X e t' := ⟨fun wh pins s σ H Q I hw => h.run wh pins s σ H Q I (k σ H Q hw)⟩
theorem PA.weak {X : Cx} {e : List Expr} {t t' : TA} (h : PA X e t) (k : ∀ σ H Q, t' σ H Q → t σ H Q) : PA X e t' := ⟨fun pos pins s σ H Q I hw => h.run pos pins s σ H Q I (k σ H Q hw)⟩
theorem PS.weak {X : Cx} {e : Stmt} {t t' : TS} (h : PS X e t) (k : ∀ E σ H, t' E σ H → t E σ H) : PS X e t' := ⟨fun pins s σ H E I hw => h.run pins s σ H E I (k E σ H hw)⟩
theorem PSs.weak {X : Cx} {e : List Stmt} {t t' : TS} (h : PSs X e t) (k : ∀ E σ H, t' E σ H → t E σ H) : PSs X e t' := ⟨fun pins s σ H E I hw => h.run pins s σ H E I (k E σ H hw)⟩
section
variable {X : Cx} {cl : Nat → Addr} {e a b c : Expr} {es : List Expr} {m ma mb mc : ME} {mt mu : MT} {pos : Pos}

@[simp] def mVar (i : Nat) : ME := fun δ μ => match δ[i]? with
  | some (.dat d) => some (.dat d, μ)
  | some (.cel k) => some (.cel k, μ)
  | _ => none
@[simp] def mC (d : D) : ME := fun _ μ => some (.dat d, μ)
theorem se_var {i : Nat} {x : Str} (hN : X.N[i]? = some x := by rfl) (hv : Vis X.env.scope x := by first | exact Or.inl rfl | exact Or.inr (Or.inl rfl) | exact Or.inr (Or.inr rfl)) (hd : (x == ("__debug__" : Str)) = false := by decide)
    (hcd : (x == ("__classdict__" : Str)) = false := by decide) : SE X cl (.Name x pos) (mVar i) := by
  refine PE.weak (pe_var hN hv hd hcd) fun σ H Q ⟨F, α, δ, μ, r, μ', C, Ee, hm, k⟩ => ?_
  unfold mVar at hm
  split at hm
  · rename_i d hd
    cases hm
    obtain ⟨v, h1, h2⟩ := Ee.2.1 i d hd
    exact ⟨v, h1, k v F H Evo.refl C h2⟩
  · rename_i kk hd
    cases hm
    obtain ⟨ad, h1, h2⟩ := Ee.2.2 i kk hd
    exact ⟨.ref ad, h2, k _ F H Evo.refl C ⟨ad, h1, rfl⟩⟩
  · cases hm
theorem se_c {d : D} {v : V} (h : PE X e (tC v)) (hv : ∀ F, Rep X.K cl F v d) : SE X cl e (mC d) := by
  refine PE.weak h fun σ H Q ⟨F, α, δ, μ, r, μ', C, Ee, hm, k⟩ => ?_
  cases hm
  exact k v F H Evo.refl C (hv F)
theorem se_int {i : Int} {j : Nat} : SE X cl (.Constant (.int i) j pos) (mC (.int i)) := se_c pe_int fun _ => .int i
theorem se_bl {i : Bool} {j : Nat} : SE X cl (.Constant (.bool i) j pos) (mC (.bl i)) := se_c pe_bl fun _ => .bl i
theorem se_non {j : Nat} : SE X cl (.Constant .none j pos) (mC .non) := se_c pe_non fun _ => .non
/-- freeze what comes -/
@[simp] def mFz (m : ME) : ME := fun δ μ => match m δ μ with
  | some (r, μ') => some (froz r, μ')
  | none => none
end
end DL
set_option Elab.async false
set_option linter.all false
set_option maxRecDepth 100000
set_option maxHeartbeats 1000000
namespace DL
open PySem L2

@[simp] def lstOf : R → Mu → Option (List D)
  | .dat (.lst xs), _ => some xs
  | .fr xs, _ => some xs
  | .cel k, μ => match μ[k]? with
    | some (.l xs) => some xs
    | _ => none
  | _, _ => none
section
variable {K : PySem.W.Frag} {cl : Nat → Addr} {F H H0 : Hp} {α : List Addr} {μ : Mu} {v x y : V} {r rx ry : R} {xs ys : List D}
theorem cell_at (C : Conc K cl F α μ H) {k : Nat} {a : Addr} (ha : α[k]? = some a) (hx : μ[k]? = some (.l xs)) : ∃ vs, H a = some (.lst vs) ∧ Reps K cl F vs xs := C.cell k a (.l xs) ha hx
theorem lstOf_cel {k : Nat} (q : lstOf (.cel k) μ = some xs) : μ[k]? = some (.l xs) := by
  have e : lstOf (.cel k) μ = match μ[k]? with
    | some (.l xs) => some xs
    | _ => none := rfl
  rw [e] at q
  split at q
  · rename_i h
    cases q
    exact h
  · cases q
theorem lstOf_ok (C : Conc K cl F α μ H) (h : RepR K cl H0 F α H x r) (q : lstOf r μ = some xs) : ∃ a vs, x = .ref a ∧ H a = some (.lst vs) ∧ Reps K cl F vs xs := by
  cases r with
  | no => cases q
  | dat d =>
    cases d with
    | lst zs =>
      cases q
      cases h with
      | lst h1 h2 => exact ⟨_, _, rfl, C.sub _ _ h1, h2⟩
    | _ => cases q
  | cel k =>
    obtain ⟨a, h1, rfl⟩ := h
    obtain ⟨vs, h2, h3⟩ := cell_at C h1 (lstOf_cel q)
    exact ⟨a, vs, rfl, h2, h3⟩
  | fc c => cases q
  | fr zs =>
    cases q
    obtain ⟨a, vs, rfl, _, _, _, h5, h6⟩ := h
    exact ⟨a, vs, rfl, h5, h6⟩
/-- a list or the script or a tuple, read -/
inductive Sq where
  | l (xs : List D) | t (xs : List D)
@[simp] def sqOf : R → Mu → Option Sq
  | .dat (.tup xs), _ => some (.t xs)
  | .dat (.scr ns), _ => some (.l (ns.map D.int))
  | r, μ => (lstOf r μ).map .l
@[simp] def Sq.all : Sq → List D
  | .l xs => xs
  | .t xs => xs
def Sq.At (K : PySem.W.Frag) (H : Hp) (a : Addr) (vs : List V) : Sq → Prop
  | .l _ => SqL K H a vs
  | .t _ => SqT K H a vs
theorem sqOf_ok (C : Conc K cl F α μ H) (h : RepR K cl H0 F α H x r) {q : Sq} (e : sqOf r μ = some q) :
    ∃ a vs, x = .ref a ∧ Reps K cl F vs q.all ∧ q.At K H a vs := by
  have gen : (lstOf r μ).map Sq.l = some q → ∃ a vs, x = .ref a ∧ Reps K cl F vs q.all ∧ q.At K H a vs := by
    intro e
    cases e1 : lstOf r μ with
    | none =>
      rw [e1] at e
      cases e
    | some xs =>
      rw [e1] at e
      cases e
      obtain ⟨a, vs, h1, h2, h3⟩ := lstOf_ok C h e1
      exact ⟨a, vs, h1, h3, SqL.of h2⟩
  cases r with
  | no => exact gen e
  | cel k => exact gen e
  | fr zs => exact gen e
  | fc c => exact gen e
  | dat d =>
    cases d with
    | tup zs =>
      cases e
      cases h with
      | tup h1 h2 => exact ⟨_, _, rfl, h2, Same.sqT C.sub h1⟩
    | scr ns =>
      cases e
      cases h with
      | scr h1 => exact ⟨_, _, rfl, Reps.ints ns, C.sub.seq h1⟩
    | _ => exact gen e
end


def OpSem (K : PySem.W.Frag) (cl : Nat → Addr) (r : R2) (f : R → R → Mu → Option R) : Prop := ∀ (F : Hp) (α : List Addr) (μ : Mu) (H H0 : Hp) (x y : V) (rx ry z : R) (Q : VK), Conc K cl F α μ H → RepR K cl H0 F α H x rx → RepR K cl H0 F α H y ry → f rx ry μ = some z →
  (∀ v F' H', Evo F α H F' α H' → Conc K cl F' α μ H' → RepR K cl H F' α H' v z → Q v H') → r x y H Q
@[simp] def mOp (f : R → R → Mu → Option R) (ma mb : ME) : ME := fun δ μ => match ma δ μ with
  | none => none
  | some (x, μ1) => match mb δ μ1 with
    | none => none
    | some (y, μ2) => match f x y μ2 with
      | none => none
      | some z => some (z, μ2)
section
variable {X : Cx} {cl : Nat → Addr} {e a b c : Expr} {es : List Expr} {m ma mb mc : ME} {pos : Pos} {r r' : R2} {f f' : R → R → Mu → Option R} {K : PySem.W.Frag}
theorem op_imp (hf : OpSem K cl r f) : ∀ σ H Q, tm K cl (mOp f ma mb) σ H Q → tOp r (tm K cl ma) (tm K cl mb) σ H Q := fun σ H Q ⟨F, α, δ, μ, z, μ', C, Ee, hm, k⟩ => by
  unfold mOp at hm
  split at hm
  · cases hm
  rename_i x1 μ1 h1
  split at hm
  · cases hm
  rename_i y1 μ2 h2
  split at hm
  · cases hm
  rename_i z1 h3
  cases hm
  refine ⟨F, α, δ, μ, x1, μ1, C, Ee, h1, fun v F1 H1 e1 c1 r1 => ⟨F1, α, δ, μ1, y1, μ', c1, Ee.step e1, h2, fun w F2 H2 e2 c2 r2 => ?_⟩⟩
  exact hf F2 α μ' H2 H v w x1 y1 z Q c2 (r1.step e2) (r2.back e1.dom) h3 fun u F3 H3 e3 c3 r3 => k u F3 H3 (e1.trans (e2.trans e3)) c3 (r3.back fun p hp => e1.dom p (e2.dom p hp))
theorem se_op {op : Operator} (ho : OpR X (binaryOp op) r) (hf : OpSem X.K cl r f) (ha : SE X cl a ma) (hb : SE X cl b mb) : SE X cl (.BinOp a op b pos) (mOp f ma mb) := PE.weak (pe_op ho ha hb) (op_imp hf)
theorem se_cmp {op : CmpOp} (ho : OpR X (compareOp op) r) (hf : OpSem X.K cl r f) (ha : SE X cl a ma) (hb : SE X cl b mb) (hm : behindInMarks op b = false) : SE X cl (.Compare a [op] [b] pos) (mOp f ma mb) := PE.weak (pe_cmpR ho ha hb hm) (op_imp hf)
/-- a bool out of a value -/
@[simp] def mB (m : ME) : MT := fun δ μ => match m δ μ with
  | some (.dat (.bl b), μ') => some (b, μ')
  | _ => none
theorem mB_of {δ : Sl} {μ μ' : Mu} {k : Bool} (h : mB m δ μ = some (k, μ')) : m δ μ = some (.dat (.bl k), μ') := by
  unfold mB at h
  split at h
  · rename_i b μ'' h0
    cases h
    exact h0
  · cases h
theorem rep_bl {F : Hp} {v : V} {k : Bool} (h : Rep K cl F v (.bl k)) : v = .bl k := by
  cases h
  rfl
theorem rep_int {F : Hp} {v : V} {k : Int} (h : Rep K cl F v (.int k)) : v = .int k := by
  cases h
  rfl
theorem rep_str {F : Hp} {v : V} {k : Str} (h : Rep K cl F v (.str k)) : v = .str k := by
  cases h
  rfl
theorem test_imp {t : TE} (h : ∀ σ H Q, tm K cl m σ H Q → t σ H Q) : ∀ σ H Q, tmt K cl (mB m) σ H Q → tTest t σ H Q := fun σ H Q ⟨F, α, δ, μ, k, μ', C, Ee, hm, q⟩ =>
  h σ H _ ⟨F, α, δ, μ, _, μ', C, Ee, mB_of hm, fun v F' H' ev C' r => ⟨k, rep_bl r, q F' H' ev C'⟩⟩
theorem st_cmp {op : CmpOp} (ho : OpR X (compareOp op) r) (hf : OpSem X.K cl r f) (ha : SE X cl a ma) (hb : SE X cl b mb) (hm : behindInMarks op b = false) : ST X cl (.Compare a [op] [b] pos) (mB (mOp f ma mb)) :=
  PT.weak (pt_cmpR ho ha hb hm) (test_imp (op_imp hf))
theorem st_val (h : SE X cl e m) (he : ∀ whole, isTrue e X.env whole = (do let v ← whole; standAt e.pos; holding [v] (truthy v)) := by intro _; rfl) : ST X cl e (mB m) :=
  PT.weak (pt_val h he) (test_imp fun _ _ _ h => h)

@[simp] def mChain (f f' : R → R → Mu → Option R) (ma mb mc : ME) : ME := fun δ μ => match ma δ μ with
  | none => none
  | some (x, μ1) => match mb δ μ1 with
    | none => none
    | some (y, μ2) => match f x y μ2 with
      | some (.dat (.bl true)) => match mc δ μ2 with
        | none => none
        | some (z, μ3) => match f' y z μ3 with
          | none => none
          | some u => some (u, μ3)
      | some (.dat (.bl false)) => some (.dat (.bl false), μ2)
      | _ => none
@[simp] def mUn (f : Int → Int) (m : ME) : ME := fun δ μ => match m δ μ with
  | some (.dat (.int i), μ') => some (.dat (.int (f i)), μ')
  | _ => none
theorem se_neg (h : SE X cl e m) : SE X cl (.UnaryOp .USub e pos) (mUn (fun i => -i) m) := by
  refine PE.weak (pe_un un_neg h) fun σ H Q ⟨F, α, δ, μ, z, μ', C, Ee, hm, k⟩ => ?_
  unfold mUn at hm
  split at hm
  · rename_i i μ'' h0
    cases hm
    refine ⟨F, α, δ, μ, _, μ', C, Ee, h0, fun v F1 H1 e1 c1 r1 => ⟨i, rep_int r1, k _ F1 H1 e1 c1 (.int _)⟩⟩
  · cases hm
@[simp] def mNot (m : ME) : ME := fun δ μ => match m δ μ with
  | some (.dat (.bl b), μ') => some (.dat (.bl (!b)), μ')
  | _ => none
theorem se_not (h : SE X cl e m) : SE X cl (.UnaryOp .Not e pos) (mNot m) := by
  refine PE.weak (pe_not h) fun σ H Q ⟨F, α, δ, μ, z, μ', C, Ee, hm, k⟩ => ?_
  unfold mNot at hm
  split at hm
  · rename_i i μ'' h0
    cases hm
    refine ⟨F, α, δ, μ, _, μ', C, Ee, h0, fun v F1 H1 e1 c1 r1 => ⟨i, rep_bl r1, k _ F1 H1 e1 c1 (.bl _)⟩⟩
  · cases hm
@[simp] def mtNot (m : MT) : MT := fun δ μ => match m δ μ with
  | some (b, μ') => some (!b, μ')
  | none => none
theorem st_not {mt : MT} (h : ST X cl e mt) : ST X cl (.UnaryOp .Not e pos) (mtNot mt) := by
  refine PT.weak (pt_not h) fun σ H Q ⟨F, α, δ, μ, z, μ', C, Ee, hm, k⟩ => ?_
  unfold mtNot at hm
  split at hm
  · rename_i i μ'' h0
    cases hm
    exact ⟨F, α, δ, μ, _, μ', C, Ee, h0, fun F1 H1 e1 c1 => k F1 H1 e1 c1⟩
  · cases hm

@[simp] def truR : R → Mu → Option Bool
  | .dat .non, _ => some false
  | .dat (.bl b), _ => some b
  | .dat (.int i), _ => some (i != 0)
  | r, μ => (sqOf r μ).map fun q => !q.all.isEmpty
theorem isEmpty_reps {F : Hp} {vs : List V} {xs : List D} (h : Reps K cl F vs xs) : vs.isEmpty = xs.isEmpty := by
  cases h <;> rfl
theorem truR_ok {F H H0 : Hp} {α : List Addr} {μ : Mu} {x : V} {r : R} {k : Bool} (C : Conc K cl F α μ H) (h : RepR K cl H0 F α H x r) (q : truR r μ = some k) : TruV K x H k := by
  have gen : (sqOf r μ).map (fun q => !q.all.isEmpty) = some k → TruV K x H k := by
    intro e
    cases e1 : sqOf r μ with
    | none =>
      rw [e1] at e
      cases e
    | some z =>
      rw [e1] at e
      cases e
      obtain ⟨a, vs, rfl, h2, h3⟩ := sqOf_ok C h e1
      show TruV K (.ref a) H (!z.all.isEmpty)
      rw [← isEmpty_reps h2]
      cases z with
      | l xs => exact .inl ⟨vs, h3, rfl⟩
      | t xs => exact .inr (.inl ⟨vs, h3, rfl⟩)
  cases r with
  | no => exact gen q
  | cel j => exact gen q
  | fr zs => exact gen q
  | fc c => exact gen q
  | dat d =>
    cases d with
    | non =>
      cases q
      cases h
      rfl
    | bl b =>
      cases q
      cases h
      rfl
    | int i =>
      cases q
      cases h
      rfl
    | _ => exact gen q
@[simp] def mOr (ma mb : ME) : ME := fun δ μ => match ma δ μ with
  | none => none
  | some (x, μ1) => match truR x μ1 with
    | some true => some (x, μ1)
    | some false => mb δ μ1
    | none => none
@[simp] def mAnd (ma mb : ME) : ME := fun δ μ => match ma δ μ with
  | none => none
  | some (x, μ1) => match truR x μ1 with
    | some false => some (x, μ1)
    | some true => mb δ μ1
    | none => none
theorem se_one {op : BoolOp} (h : SE X cl e m) : SE X cl (.BoolOp op [e] pos) m := pe_one h
theorem se_or {rest : List Expr} (ha : SE X cl a ma) (hb : SE X cl (.BoolOp .Or (b :: rest) pos) mb) : SE X cl (.BoolOp .Or (a :: b :: rest) pos) (mOr ma mb) := by
  refine PE.weak (pe_orT ha hb) fun σ H Q ⟨F, α, δ, μ, z, μ', C, Ee, hm, k⟩ => ?_
  unfold mOr at hm
  split at hm
  · cases hm
  rename_i x1 μ1 h1
  refine ⟨F, α, δ, μ, x1, μ1, C, Ee, h1, fun v F1 H1 e1 c1 r1 => ?_⟩
  split at hm
  · rename_i h2
    cases hm
    exact ⟨true, truR_ok c1 r1 h2, iteT (k v F1 H1 e1 c1 r1)⟩
  · rename_i h2
    exact ⟨false, truR_ok c1 r1 h2, iteF ⟨F1, α, δ, μ1, z, μ', c1, Ee.step e1, hm, fun w F2 H2 e2 c2 r2 => k w F2 H2 (e1.trans e2) c2 (r2.back e1.dom)⟩⟩
  · cases hm
theorem se_and {rest : List Expr} (ha : SE X cl a ma) (hb : SE X cl (.BoolOp .And (b :: rest) pos) mb) : SE X cl (.BoolOp .And (a :: b :: rest) pos) (mAnd ma mb) := by
  refine PE.weak (pe_andT ha hb) fun σ H Q ⟨F, α, δ, μ, z, μ', C, Ee, hm, k⟩ => ?_
  unfold mAnd at hm
  split at hm
  · cases hm
  rename_i x1 μ1 h1
  refine ⟨F, α, δ, μ, x1, μ1, C, Ee, h1, fun v F1 H1 e1 c1 r1 => ?_⟩
  split at hm
  · rename_i h2
    cases hm
    exact ⟨false, truR_ok c1 r1 h2, iteF (k v F1 H1 e1 c1 r1)⟩
  · rename_i h2
    exact ⟨true, truR_ok c1 r1 h2, iteT ⟨F1, α, δ, μ1, z, μ', c1, Ee.step e1, hm, fun w F2 H2 e2 c2 r2 => k w F2 H2 (e1.trans e2) c2 (r2.back e1.dom)⟩⟩
  · cases hm
@[simp] def mtOr (ma mb : MT) : MT := fun δ μ => match ma δ μ with
  | some (true, μ1) => some (true, μ1)
  | some (false, μ1) => mb δ μ1
  | none => none
@[simp] def mtAnd (ma mb : MT) : MT := fun δ μ => match ma δ μ with
  | some (false, μ1) => some (false, μ1)
  | some (true, μ1) => mb δ μ1
  | none => none
abbrev SW (X : Cx) (cl : Nat → Addr) (e : Expr) (m : MT) : Prop := PW X e (tmt X.K cl m)
variable {mt mu : MT} {rest : List Expr}
theorem sw_and1 (h : ST X cl e mt) : SW X cl (.BoolOp .And [e] pos) mt := pw_and1 h
theorem sw_or1 (h : ST X cl e mt) : SW X cl (.BoolOp .Or [e] pos) mt := pw_or1 h
theorem sw_and (ha : ST X cl a mt) (hb : SW X cl (.BoolOp .And (b :: rest) pos) mu) : SW X cl (.BoolOp .And (a :: b :: rest) pos) (mtAnd mt mu) := by
  refine PW.weak (pw_and ha hb) fun σ H Q ⟨F, α, δ, μ, z, μ', C, Ee, hm, k⟩ => ?_
  unfold mtAnd at hm
  split at hm
  · rename_i μ1 h1
    cases hm
    exact ⟨F, α, δ, μ, _, μ', C, Ee, h1, fun F1 H1 e1 c1 => iteF (k F1 H1 e1 c1)⟩
  · rename_i μ1 h1
    exact ⟨F, α, δ, μ, _, μ1, C, Ee, h1, fun F1 H1 e1 c1 => iteT ⟨F1, α, δ, μ1, z, μ', c1, Ee.step e1, hm, fun F2 H2 e2 c2 => k F2 H2 (e1.trans e2) c2⟩⟩
  · cases hm
theorem sw_or (ha : ST X cl a mt) (hb : SW X cl (.BoolOp .Or (b :: rest) pos) mu) : SW X cl (.BoolOp .Or (a :: b :: rest) pos) (mtOr mt mu) := by
  refine PW.weak (pw_or ha hb) fun σ H Q ⟨F, α, δ, μ, z, μ', C, Ee, hm, k⟩ => ?_
  unfold mtOr at hm
  split at hm
  · rename_i μ1 h1
    cases hm
    exact ⟨F, α, δ, μ, _, μ', C, Ee, h1, fun F1 H1 e1 c1 => iteT (k F1 H1 e1 c1)⟩
  · rename_i μ1 h1
    exact ⟨F, α, δ, μ, _, μ1, C, Ee, h1, fun F1 H1 e1 c1 => iteF ⟨F1, α, δ, μ1, z, μ', c1, Ee.step e1, hm, fun F2 H2 e2 c2 => k F2 H2 (e1.trans e2) c2⟩⟩
  · cases hm
theorem st_w (h : SW X cl e mt) : ST X cl e mt := h.pt
@[simp] def mIf (mt : MT) (ma mb : ME) : ME := fun δ μ => match mt δ μ with
  | some (true, μ1) => ma δ μ1
  | some (false, μ1) => mb δ μ1
  | none => none
theorem se_if (hc : ST X cl c mt) (ha : SE X cl a ma) (hb : SE X cl b mb) : SE X cl (.IfExp c a b pos) (mIf mt ma mb) := by
  refine PE.weak (pe_ifExp hc ha hb) fun σ H Q ⟨F, α, δ, μ, z, μ', C, Ee, hm, k⟩ => ?_
  unfold mIf at hm
  split at hm
  · rename_i μ1 h1
    exact ⟨F, α, δ, μ, _, μ1, C, Ee, h1, fun F1 H1 e1 c1 => iteT ⟨F1, α, δ, μ1, z, μ', c1, Ee.step e1, hm, fun v F2 H2 e2 c2 r2 => k v F2 H2 (e1.trans e2) c2 (r2.back e1.dom)⟩⟩
  · rename_i μ1 h1
    exact ⟨F, α, δ, μ, _, μ1, C, Ee, h1, fun F1 H1 e1 c1 => iteF ⟨F1, α, δ, μ1, z, μ', c1, Ee.step e1, hm, fun v F2 H2 e2 c2 r2 => k v F2 H2 (e1.trans e2) c2 (r2.back e1.dom)⟩⟩
  · cases hm


@[simp] def mNil : MA := fun _ μ => some ([], μ)
@[simp] def mCons (m : ME) (ms : MA) : MA := fun δ μ => match m δ μ with
  | none => none
  | some (.fc _, _) => none
  | some (r, μ1) => match ms δ μ1 with
    | none => none
    | some (rs, μ2) => some (froz r :: rs, μ2)
theorem sa_nil : SA X cl [] mNil := by
  refine PA.weak pa_nil fun σ H Q ⟨F, α, δ, μ, z, μ', C, Ee, hm, k⟩ => ?_
  cases hm
  exact k [] F H Evo.refl C .nil
theorem arg_of {H0 F H : Hp} {α : List Addr} {v : V} {r : R} (hr : ∀ c, r ≠ .fc c) (h : RepR K cl H0 F α H v (froz r)) : ArgR K cl F α v (froz r) := by
  cases r with
  | no => exact h
  | dat d => exact h
  | cel k => exact h
  | fr xs => exact h
  | fc c => exact absurd rfl (hr c)
theorem ArgR.step {F F' H H' : Hp} {α α' : List Addr} {v : V} {r : R} (h : ArgR K cl F α v r) (e : Evo F α H F' α' H') : ArgR K cl F' α' v r := by
  cases r with
  | no => exact h
  | dat d => exact Rep.mono e.ff h
  | cel k =>
    obtain ⟨a, h1, h2⟩ := h
    obtain ⟨x, rfl⟩ := e.ext
    exact ⟨a, by rw [List.getElem?_append_left (List.getElem?_eq_some_iff.mp h1).1]; exact h1, h2⟩
  | fr xs => exact h
  | fc c => exact h
theorem sa_cons {ms : MA} (ha : SE X cl a m) (hr : SA X cl es ms) (hs : starEach (a :: es) X.env = (false, eval a X.env) :: starEach es X.env := by rfl) : SA X cl (a :: es) (mCons m ms) := by
  refine PA.weak (pa_cons ha hr hs) fun σ H Q ⟨F, α, δ, μ, z, μ', C, Ee, hm, k⟩ => ?_
  unfold mCons at hm
  split at hm
  · cases hm
  · cases hm
  rename_i r1 μ1 hnf h1
  replace hnf : ∀ c, r1 ≠ .fc c := fun c z => hnf c z
  split at hm
  · cases hm
  rename_i rs μ2 h2
  cases hm
  refine ⟨F, α, δ, μ, r1, μ1, C, Ee, h1, fun v F1 H1 e1 c1 q1 => ?_⟩
  obtain ⟨F1', e1', c1', q1'⟩ := freeze e1 c1 q1
  refine ⟨F1', α, δ, μ1, rs, μ', c1', Ee.step e1', h2, fun vs F2 H2 e2 c2 q2 => k _ F2 H2 (e1'.trans e2) c2 (.cons ((arg_of hnf q1').step e2) q2)⟩
@[simp] def allD : List R → Option (List D)
  | [] => some []
  | .dat d :: rs => match allD rs with
    | some ds => some (d :: ds)
    | none => none
  | _ => none
theorem allD_ok {F : Hp} {α : List Addr} : ∀ {vs : List V} {rs : List R} {ds : List D}, ArgRs K cl F α vs rs → allD rs = some ds → Reps K cl F vs ds
  | _, _, _, .nil, h => by
    cases h
    exact .nil
  | _, _, _, .cons (r := r) h q, e => by
    cases r with
    | dat d =>
      unfold allD at e
      split at e
      · rename_i ds' h'
        cases e
        exact .cons h (allD_ok q h')
      · cases e
    | _ => cases e
@[simp] def mTup (ms : MA) : ME := fun δ μ => match ms δ μ with
  | none => none
  | some (rs, μ1) => match allD rs with
    | none => none
    | some ds => if ds.length ≤ 100000 then some (.dat (.tup ds), μ1) else none
@[simp] def mLst (ms : MA) : ME := fun δ μ => match ms δ μ with
  | none => none
  | some (rs, μ1) => match allD rs with
    | none => none
    | some ds => if ds.length ≤ 100000 then some (.fr ds, μ1) else none
theorem sz_of {n : Nat} (h : n ≤ 100000) : n ≤ sizeLine := Nat.le_trans h (by decide)
theorem sz_lt {n : Nat} (h : n < 100000) : n < sizeLine := Nat.lt_of_lt_of_le h (by decide)
theorem se_tup {ms : MA} {x1 : Nat} (h : SA X cl es ms) : SE X cl (.Tuple es x1 pos) (mTup ms) := by
  refine PE.weak (pe_tup h) fun σ H Q ⟨F, α, δ, μ, z, μ', C, Ee, hm, k⟩ => ?_
  unfold mTup at hm
  split at hm
  · cases hm
  rename_i rs μ1 h1
  split at hm
  · cases hm
  rename_i ds h2
  split at hm
  · rename_i h3
    cases hm
    refine ⟨F, α, δ, μ, rs, μ', C, Ee, h1, fun vs F1 H1 e1 c1 q1 => ?_⟩
    have q2 := allD_ok q1 h2
    refine ⟨sz_of (by rw [q2.length]; exact h3), fun p hp => ?_⟩
    obtain ⟨e2, c2⟩ := c1.new (o := .tup vs) hp
    exact k _ _ _ (e1.trans e2) c2 (.tup (SqT.of upd_same) (q2.mono e2.ff))
  · cases hm
theorem se_lst {ms : MA} (h : SA X cl es ms) : SE X cl (.List es pos) (mLst ms) := by
  refine PE.weak (pe_lst h) fun σ H Q ⟨F, α, δ, μ, z, μ', C, Ee, hm, k⟩ => ?_
  unfold mLst at hm
  split at hm
  · cases hm
  rename_i rs μ1 h1
  split at hm
  · cases hm
  rename_i ds h2
  split at hm
  · rename_i h3
    cases hm
    refine ⟨F, α, δ, μ, rs, μ', C, Ee, h1, fun vs F1 H1 e1 c1 q1 => ?_⟩
    have q2 := allD_ok q1 h2
    refine ⟨sz_of (by rw [q2.length]; exact h3), fun p hp => ?_⟩
    obtain ⟨e2, c2, r2⟩ := c1.newL hp q2
    exact k _ _ _ (e1.trans e2) c2 (r2.back e1.dom)
  · cases hm
end
end DL
set_option Elab.async false
set_option linter.all false
set_option maxRecDepth 100000
set_option maxHeartbeats 1000000

namespace DL
open PySem L2
def lexLt2 : List (List Int) → List (List Int) → Bool
  | [], [] => false
  | [], _ :: _ => true
  | _ :: _, [] => false
  | x :: xs, y :: ys => if x = y then lexLt2 xs ys else HT.lexLt x y
theorem lexLt2_cons (x y : List Int) (xs ys : List (List Int)) : lexLt2 (x :: xs) (y :: ys) = if x = y then lexLt2 xs ys else HT.lexLt x y := rfl
abbrev pyI (ns : List Int) : List PyData := ns.map PyData.int
abbrev pyR (rs : List (List Int)) : List PyData := rs.map fun r => .tuple (pyI r)
theorem eqvAll_pyI : ∀ xs ys : List Int, PyData.eqvAll (pyI xs) (pyI ys) = decide (xs = ys)
  | [], [] => by simp [PyData.eqvAll]
  | [], _ :: _ => by simp [PyData.eqvAll]
  | _ :: _, [] => by simp [PyData.eqvAll]
  | x :: xs, y :: ys => by
    simp only [pyI, List.map_cons, PyData.eqvAll, PyData.eqv]
    rw [show PyData.eqvAll (List.map PyData.int xs) (List.map PyData.int ys) = _ from eqvAll_pyI xs ys]
    rw [Bool.eq_iff_iff]
    simp
theorem alike_pyI : ∀ xs ys : List Int, PySem.W.alikeAll (pyI xs) (pyI ys) = true
  | [], _ => by simp [PySem.W.alikeAll]
  | _ :: _, [] => by simp [PySem.W.alikeAll]
  | x :: xs, y :: ys => by
    simp only [pyI, List.map_cons, PySem.W.alikeAll, PySem.W.alike, Bool.true_and]
    exact alike_pyI xs ys
theorem alike_pyR : ∀ xs ys : List (List Int), PySem.W.alikeAll (pyR xs) (pyR ys) = true
  | [], _ => by simp [PySem.W.alikeAll]
  | _ :: _, [] => by simp [PySem.W.alikeAll]
  | x :: xs, y :: ys => by
    simp only [pyR, List.map_cons, PySem.W.alikeAll, PySem.W.alike, Bool.and_eq_true]
    exact ⟨alike_pyI x y, alike_pyR xs ys⟩
theorem lex_nn : PyProof.Rows.lexLt PyProof.Rows.itemOrd (PySem.W.keyToksAll []) (PySem.W.keyToksAll []) = false := by
  simp only [PySem.W.keyToksAll]
  rfl
theorem lex_nc (x : PyData) (xs : List PyData) : PyProof.Rows.lexLt PyProof.Rows.itemOrd (PySem.W.keyToksAll []) (PySem.W.keyToksAll (x :: xs)) = true := by
  rw [PySem.W.toks_all_cons]
  simp only [PySem.W.keyToksAll]
  rw [PySem.W.lex_atom (by simp), PySem.W.lex_one]
  rfl
theorem lex_cn (x : PyData) (xs : List PyData) : PyProof.Rows.lexLt PyProof.Rows.itemOrd (PySem.W.keyToksAll (x :: xs)) (PySem.W.keyToksAll []) = false := by
  rw [PySem.W.toks_all_cons]
  simp only [PySem.W.keyToksAll]
  rw [PySem.W.lex_atom (by simp), PySem.W.lex_one]
  rfl
theorem dlt_pyI : ∀ xs ys : List Int, PySem.W.dataLt (.tuple (pyI xs)) (.tuple (pyI ys)) = HT.lexLt xs ys := by
  intro xs ys
  rw [PySem.W.dataLt_tuple]
  induction xs generalizing ys with
  | nil =>
    cases ys with
    | nil => exact lex_nn
    | cons y ys => exact lex_nc _ _
  | cons x xs ih =>
    cases ys with
    | nil => exact lex_cn _ _
    | cons y ys =>
      simp only [pyI, List.map_cons]
      rw [HT.lexLt_cons]
      by_cases e : x = y
      · rw [if_pos e, PySem.W.dataLt_all_yes (by simp [PySem.W.alike]) (by simp [PyData.eqv, e])]
        exact ih ys
      · rw [if_neg e, PySem.W.dataLt_all_no (by simp [PySem.W.alike]) (by simp [PyData.eqv, e]), PySem.W.dataLt_int]
theorem dlt_pyR : ∀ xs ys : List (List Int), PySem.W.dataLt (.tuple (pyR xs)) (.tuple (pyR ys)) = lexLt2 xs ys := by
  intro xs ys
  rw [PySem.W.dataLt_tuple]
  induction xs generalizing ys with
  | nil =>
    cases ys with
    | nil => exact lex_nn
    | cons y ys => exact lex_nc _ _
  | cons x xs ih =>
    cases ys with
    | nil => exact lex_cn _ _
    | cons y ys =>
      simp only [pyR, List.map_cons]
      rw [lexLt2_cons]
      have ev : PyData.eqv (.tuple (pyI x)) (.tuple (pyI y)) = decide (x = y) := by
        simp only [PyData.eqv]
        exact eqvAll_pyI x y
      have al : PySem.W.alike (.tuple (pyI x)) (.tuple (pyI y)) = true := by
        simp only [PySem.W.alike]
        exact alike_pyI x y
      by_cases e : x = y
      · rw [if_pos e, PySem.W.dataLt_all_yes al (by rw [ev, decide_eq_true e])]
        exact ih ys
      · rw [if_neg e, PySem.W.dataLt_all_no al (by rw [ev, decide_eq_false e]), dlt_pyI]
theorem depth_pyI : ∀ ns : List Int, PyData.depthAll (pyI ns) = 0
  | [] => rfl
  | n :: ns => by
    have := depth_pyI ns
    simp only [pyI, List.map_cons, PyData.depthAll, PyData.depth] at this ⊢
    omega
theorem depth_pyR : ∀ rs : List (List Int), PyData.depthAll (pyR rs) ≤ 1
  | [] => Nat.zero_le _
  | r :: rs => by
    have := depth_pyR rs
    have h2 := depth_pyI r
    simp only [pyR, List.map_cons, PyData.depthAll, PyData.depth] at this ⊢
    rw [h2]
    omega
/-- `<` of alike data -/
def rLtD (K : PySem.W.Frag) : R2 := fun x y H Q => ∃ d e, Dp K H x d ∧ Dp K H y e ∧ PySem.W.alike d e = true ∧ d ≠ .none ∧ d.depth ≤ 64 ∧ Q (.bl (PySem.W.dataLt d e)) H
theorem op_ltD {X : Cx} (hu : X.A.units + 64 < cLine) : OpR X (compareOp .Lt) (rLtD X.K) := by
  intro pins s σ H x y v u Q I rx ry h
  obtain ⟨d, e, hd, he, al, nn, dp, q⟩ := h
  obtain ⟨as, r1⟩ := Dp.reads I d x v hd rx
  obtain ⟨bs, r2⟩ := Dp.reads I e y u he ry
  exact PySem.W.rcLt_alike d e X.A s v u as bs r1 r2 al nn (by omega) _ _ _ _ ⟨.bl _, H, I, rfl, q⟩
end DL
set_option Elab.async false
set_option linter.all false
set_option maxRecDepth 100000
set_option maxHeartbeats 1000000
namespace DL
open PySem L2
section
variable {X : Cx} {cl : Nat → Addr} {e a b c : Expr} {es : List Expr} {m ma mb mc : ME} {pos : Pos} {r r' : R2} {f f' : R → R → Mu → Option R} {K : PySem.W.Frag}

@[simp] def fI (C : Int → Int → Bool) (g : Int → Int → D) : R → R → Mu → Option R
  | .dat (.int i), .dat (.int j), _ => if C i j then some (.dat (g i j)) else none
  | _, _, _ => none
theorem sem_I {C : Int → Int → Prop} {Cb : Int → Int → Bool} {g : Int → Int → V} {gd : Int → Int → D} (hC : ∀ i j, Cb i j = true → C i j) (hg : ∀ i j F, Rep K cl F (g i j) (gd i j)) : OpSem K cl (rI C g) (fI Cb gd) := by
  intro F α μ H H0 x y rx ry z Q C' h1 h2 hz k
  unfold fI at hz
  split at hz
  · rename_i i j
    split at hz
    · rename_i hc
      cases hz
      exact ⟨i, j, rep_int h1, rep_int h2, hC i j hc, k _ F H Evo.refl C' (hg i j F)⟩
    · cases hz
  · cases hz
theorem sem_I0 {g : Int → Int → V} {gd : Int → Int → D} (hg : ∀ i j F, Rep K cl F (g i j) (gd i j)) : OpSem K cl (rI0 g) (fI (fun _ _ => true) gd) := by
  intro F α μ H H0 x y rx ry z Q C' h1 h2 hz k
  unfold fI at hz
  split at hz
  · rename_i i j
    split at hz
    · rename_i hc
      cases hz
      exact ⟨i, j, rep_int h1, rep_int h2, k _ F H Evo.refl C' (hg i j F)⟩
    · cases hz
  · cases hz
abbrev fSub := fI (fun _ _ => true) fun i j => .int (i - j)
abbrev fDiv := fI (fun _ j => decide (0 < j ∧ j < 1073741824)) fun i j => .int (i / j)
abbrev fMod := fI (fun _ j => decide (0 < j)) fun i j => .int (i % j)
abbrev fPow := fI (fun i j => decide (0 ≤ j ∧ j ≤ 1000000 ∧ i.natAbs < 2 ^ 64)) fun i j => .int (i ^ j.toNat)
abbrev fLtI := fI (fun _ _ => true) fun i j => .bl (decide (i < j))
abbrev fLeI := fI (fun _ _ => true) fun i j => .bl (decide (i ≤ j))
abbrev fGtI := fI (fun _ _ => true) fun i j => .bl (decide (j < i))
abbrev fGeI := fI (fun _ _ => true) fun i j => .bl (decide (j ≤ i))
theorem se_sub (ha : SE X cl a ma) (hb : SE X cl b mb) : SE X cl (.BinOp a .Sub b pos) (mOp fSub ma mb) := se_op op_sub (sem_I0 fun _ _ _ => .int _) ha hb
theorem se_div (ha : SE X cl a ma) (hb : SE X cl b mb) : SE X cl (.BinOp a .FloorDiv b pos) (mOp fDiv ma mb) := se_op op_fdiv (sem_I (fun i j h => show CDiv i j from of_decide_eq_true (p := 0 < j ∧ j < 1073741824) h) fun _ _ _ => .int _) ha hb
theorem se_mod (ha : SE X cl a ma) (hb : SE X cl b mb) : SE X cl (.BinOp a .Mod b pos) (mOp fMod ma mb) := se_op op_mod (sem_I (fun _ _ h => of_decide_eq_true h) fun _ _ _ => .int _) ha hb
theorem se_pow (ha : SE X cl a ma) (hb : SE X cl b mb) : SE X cl (.BinOp a .Pow b pos) (mOp fPow ma mb) := se_op op_pow (sem_I (fun i j h => show CPow i j from of_decide_eq_true (p := 0 ≤ j ∧ j ≤ 1000000 ∧ i.natAbs < 2 ^ 64) h) fun _ _ _ => .int _) ha hb

@[simp] def fAdd : R → R → Mu → Option R
  | .dat (.int i), .dat (.int j), _ => some (.dat (.int (i + j)))
  | .dat (.str x), .dat (.str y), _ => if x.length + y.length ≤ 100000 then some (.dat (.str (x ++ y))) else none
  | .dat (.tup xs), .dat (.tup ys), _ => if xs.length + ys.length ≤ 100000 then some (.dat (.tup (xs ++ ys))) else none
  | x, y, μ => match lstOf x μ, lstOf y μ with
    | some xs, some ys => if xs.length + ys.length ≤ 100000 then some (.fr (xs ++ ys)) else none
    | _, _ => none
def rAddAll (K : PySem.W.Frag) : R2 := fun x y H Q => (rI0 (fun i j => .int (i + j)) x y H Q) ∨ ((∃ i j, x = .str i ∧ y = .str j ∧ i.length + j.length ≤ sizeLine ∧ Q (.str (i ++ j)) H) ∨ (rCatA K x y H Q ∨ rCat x y H Q))
theorem op_addAll : OpR X (binaryOp .Add) (rAddAll X.K) := OpR.or op_add (OpR.or op_add_str (OpR.or op_catA op_cat))
theorem sem_add : OpSem K cl (rAddAll K) fAdd := by
  intro F α μ H H0 x y rx ry z Q C h1 h2 hz k
  have gen : (match lstOf rx μ, lstOf ry μ with | some xs, some ys => (if xs.length + ys.length ≤ 100000 then some (R.fr (xs ++ ys)) else none) | _, _ => none) = some z → rAddAll K x y H Q := by
    intro hz
    split at hz
    · rename_i xs ys e1 e2
      split at hz
      · rename_i hl
        cases hz
        obtain ⟨p, vs, rfl, q1, q2⟩ := lstOf_ok C h1 e1
        obtain ⟨p', vs', rfl, q1', q2'⟩ := lstOf_ok C h2 e2
        refine .inr (.inr (.inr ⟨p, p', vs, vs', rfl, rfl, q1, q1', ?_, fun l hl' => ?_⟩))
        · rw [q2.length, q2'.length]
          exact sz_of hl
        · obtain ⟨e3, c3, r3⟩ := C.newL hl' (q2.append q2')
          exact k _ _ _ e3 c3 r3
      · cases hz
    · cases hz
  unfold fAdd at hz
  split at hz
  · rename_i i j
    cases hz
    exact .inl ⟨i, j, rep_int h1, rep_int h2, k _ F H Evo.refl C (.int _)⟩
  · rename_i i j
    split at hz
    · rename_i hl
      cases hz
      exact .inr (.inl ⟨i, j, rep_str h1, rep_str h2, sz_of hl, k _ F H Evo.refl C (.str _)⟩)
    · cases hz
  · rename_i xs ys
    split at hz
    · rename_i hl
      cases hz
      cases h1 with
      | tup q1 q2 =>
        cases h2 with
        | tup q1' q2' =>
          refine .inr (.inr (.inl ⟨_, _, _, _, rfl, rfl, Same.sqT C.sub q1, Same.sqT C.sub q1', ?_, fun e => ?_, fun _ e => ?_, fun _ _ p hp => ?_⟩))
          · rw [q2.length, q2'.length]
            exact sz_of hl
          · subst e
            cases q2
            exact k _ F H Evo.refl C (.tup q1' q2')
          · subst e
            cases q2'
            rw [List.append_nil] at k
            exact k _ F H Evo.refl C (.tup q1 q2)
          · obtain ⟨e3, c3⟩ := C.new (o := .tup _) hp
            exact k _ _ _ e3 c3 (.tup (SqT.of upd_same) ((q2.append q2').mono e3.ff))
    · cases hz
  · exact gen hz
theorem se_add (ha : SE X cl a ma) (hb : SE X cl b mb) : SE X cl (.BinOp a .Add b pos) (mOp fAdd ma mb) := se_op op_addAll sem_add ha hb

def cMul (i j : Int) : Bool := decide (-(2 ^ 64) < i ∧ i < 2 ^ 64) || decide (-(2 ^ 64) < j ∧ j < 2 ^ 64)
theorem cMul_ok {i j : Int} (h : cMul i j = true) : CMul i j := by
  unfold cMul at h
  rcases Bool.or_eq_true_iff.mp h with h | h
  · exact .inl (of_decide_eq_true h)
  · exact .inr (of_decide_eq_true h)
@[simp] def fMul : R → R → Mu → Option R
  | .dat (.int i), .dat (.int j), _ => if cMul i j then some (.dat (.int (i * j))) else none
  | x, .dat (.int k), μ => match lstOf x μ with
    | some xs => if 0 ≤ k ∧ k ≤ 1000 ∧ xs.length ≤ 1000 then some (.fr (List.replicate k.toNat xs).flatten) else none
    | none => none
  | _, _, _ => none
def rMulAll : R2 := fun x y H Q => rI CMul (fun i j => .int (i * j)) x y H Q ∨ rRep x y H Q
theorem op_mulAll : OpR X (binaryOp .Mult) rMulAll := OpR.or op_mul op_rep
theorem sem_mul : OpSem K cl rMulAll fMul := by
  intro F α μ H H0 x y rx ry z Q C h1 h2 hz k
  unfold fMul at hz
  split at hz
  · rename_i i j
    split at hz
    · rename_i hc
      cases hz
      exact .inl ⟨i, j, rep_int h1, rep_int h2, cMul_ok hc, k _ F H Evo.refl C (.int _)⟩
    · cases hz
  · rename_i n _
    split at hz
    · rename_i xs e1
      split at hz
      · rename_i hl
        cases hz
        obtain ⟨p, vs, rfl, q1, q2⟩ := lstOf_ok C h1 e1
        have hn : n.toNat ≤ 1000 := by omega
        refine .inr ⟨p, n, vs, rfl, rep_int h2, q1, by omega, by omega, ?_, fun l hl' => ?_⟩
        · rw [q2.length]
          exact Nat.le_trans (Nat.mul_le_mul hl.2.2 hn) (by decide)
        · obtain ⟨e3, c3, r3⟩ := C.newL hl' (q2.flat n.toNat)
          exact k _ _ _ e3 c3 r3
      · cases hz
    · cases hz
  · cases hz
theorem se_mul (ha : SE X cl a ma) (hb : SE X cl b mb) : SE X cl (.BinOp a .Mult b pos) (mOp fMul ma mb) := se_op op_mulAll sem_mul ha hb

def intsOf : List D → Option (List Int)
  | [] => some []
  | .int i :: r => match intsOf r with
    | some is => some (i :: is)
    | none => none
  | _ => none
theorem intsOf_map : ∀ {xs : List D} {ns : List Int}, intsOf xs = some ns → xs = ns.map D.int
  | [], _, h => by
    cases h
    rfl
  | .int i :: r, ns, h => by
    unfold intsOf at h
    split at h
    · rename_i is h'
      cases h
      rw [intsOf_map h']
      rfl
    · cases h
  | .non :: _, _, h => by cases h
  | .bl _ :: _, _, h => by cases h
  | .str _ :: _, _, h => by cases h
  | .tup _ :: _, _, h => by cases h
  | .lst _ :: _, _, h => by cases h
  | .scr _ :: _, _, h => by cases h
  | .ins _ _ :: _, _, h => by cases h
  | .exc _ _ _ :: _, _, h => by cases h
  | .dk _ _ :: _, _, h => by cases h
  | .dt _ _ :: _, _, h => by cases h
/-- tuples of ints -/
def rowsOf : List D → Option (List (List Int))
  | [] => some []
  | .tup xs :: r => match intsOf xs, rowsOf r with
    | some ns, some rs => some (ns :: rs)
    | _, _ => none
  | _ => none
theorem dp_ints {F H : Hp} : ∀ {vs : List V} {ns : List Int}, Reps K cl F vs (ns.map D.int) → DpAll K H vs (pyI ns)
  | _, [], h => by
    cases h
    exact .nil
  | _, n :: ns, h => by
    cases h with
    | cons r q =>
      rw [rep_int r]
      exact .cons (.int n) (dp_ints q)
theorem dp_rows {F H : Hp} (sm : Same F H) : ∀ {xs : List D} {vs : List V} {rs : List (List Int)}, Reps K cl F vs xs → rowsOf xs = some rs → DpAll K H vs (pyR rs)
  | [], _, _, h, e => by
    cases e
    cases h
    exact .nil
  | .tup xs :: r, _, rs, h, e => by
    unfold rowsOf at e
    split at e
    · rename_i ns rs' e1 e2
      cases e
      cases h with
      | cons r q =>
        cases r with
        | tup q1 q2 =>
          rw [intsOf_map e1] at q2
          exact .cons (.tup (Same.sqT sm q1) (dp_ints q2)) (dp_rows sm q e2)
    · cases e
  | .int _ :: _, _, _, _, e => by cases e
  | .non :: _, _, _, _, e => by cases e
  | .bl _ :: _, _, _, _, e => by cases e
  | .str _ :: _, _, _, _, e => by cases e
  | .lst _ :: _, _, _, _, e => by cases e
  | .scr _ :: _, _, _, _, e => by cases e
  | .ins _ _ :: _, _, _, _, e => by cases e
  | .exc _ _ _ :: _, _, _, _, e => by cases e
  | .dk _ _ :: _, _, _, _, e => by cases e
  | .dt _ _ :: _, _, _, _, e => by cases e
@[simp] def fLt : R → R → Mu → Option R
  | .dat (.int i), .dat (.int j), _ => some (.dat (.bl (decide (i < j))))
  | .dat (.tup xs), .dat (.tup ys), _ => match intsOf xs, intsOf ys with
    | some ns, some ms => some (.dat (.bl (HT.lexLt ns ms)))
    | _, _ => match rowsOf xs, rowsOf ys with
      | some rs, some ts => some (.dat (.bl (lexLt2 rs ts)))
      | _, _ => none
  | _, _, _ => none
def rLtAll (K : PySem.W.Frag) : R2 := fun x y H Q => rI0 (fun i j => .bl (decide (i < j))) x y H Q ∨ (rLtT K x y H Q ∨ rLtD K x y H Q)
theorem op_ltAll (hu : X.A.units + 64 < cLine) : OpR X (compareOp .Lt) (rLtAll X.K) := OpR.or op_lt (OpR.or (op_ltT (by omega)) (op_ltD hu))
theorem sem_lt : OpSem K cl (rLtAll K) fLt := by
  intro F α μ H H0 x y rx ry z Q C h1 h2 hz k
  unfold fLt at hz
  split at hz
  · rename_i i j
    cases hz
    exact .inl ⟨i, j, rep_int h1, rep_int h2, k _ F H Evo.refl C (.bl _)⟩
  · rename_i xs ys
    split at hz
    · rename_i ns ms e1 e2
      cases hz
      rw [intsOf_map e1] at h1
      rw [intsOf_map e2] at h2
      cases h1 with
      | tup q1 q2 =>
        cases h2 with
        | tup q1' q2' =>
          rw [q2.of_ints] at q1
          rw [q2'.of_ints] at q1'
          exact .inr (.inl ⟨_, _, ns, ms, rfl, rfl, Same.sqT C.sub q1, Same.sqT C.sub q1', k _ F H Evo.refl C (.bl _)⟩)
    · split at hz
      · rename_i rs ts e1 e2
        cases hz
        cases h1 with
        | tup q1 q2 =>
          cases h2 with
          | tup q1' q2' =>
            refine .inr (.inr ⟨.tuple (pyR rs), .tuple (pyR ts), .tup (Same.sqT C.sub q1) (dp_rows C.sub q2 e1), .tup (Same.sqT C.sub q1') (dp_rows C.sub q2' e2), ?_, (fun h => nomatch h), ?_, ?_⟩)
            · simp only [PySem.W.alike]
              exact alike_pyR rs ts
            · have := depth_pyR rs
              simp only [PyData.depth]
              omega
            · rw [dlt_pyR]
              exact k _ F H Evo.refl C (.bl _)
      · cases hz
  · cases hz
theorem st_lt (hu : X.A.units + 64 < cLine) (ha : SE X cl a ma) (hb : SE X cl b mb) : ST X cl (.Compare a [.Lt] [b] pos) (mB (mOp fLt ma mb)) := st_cmp (op_ltAll hu) sem_lt ha hb (nomark _)
theorem st_gt (ha : SE X cl a ma) (hb : SE X cl b mb) : ST X cl (.Compare a [.Gt] [b] pos) (mB (mOp fGtI ma mb)) := st_cmp op_gt (sem_I0 fun _ _ _ => .bl _) ha hb (nomark _)
theorem se_ge (ha : SE X cl a ma) (hb : SE X cl b mb) : SE X cl (.Compare a [.GtE] [b] pos) (mOp fGeI ma mb) := se_cmp op_ge (sem_I0 fun _ _ _ => .bl _) ha hb (nomark _)
mutual
def toPy : D → Option PyData
  | .non => some .none
  | .bl b => some (.bool b)
  | .int i => some (.int i)
  | .str x => some (.str x)
  | .tup xs => match toPys xs with
    | some ps => some (.tuple ps)
    | none => none
  | .lst xs => match toPys xs with
    | some ps => some (.list ps)
    | none => none
  | .scr ns => none
  | .ins _ _ => none
  | .exc _ _ _ => none
  | .dk _ _ => none
  | .dt _ _ => none
def toPys : List D → Option (List PyData)
  | [] => some []
  | d :: ds => match toPy d, toPys ds with
    | some p, some ps => some (p :: ps)
    | _, _ => none
end
mutual
theorem toPy_ok {F H : Hp} (sm : Same F H) : ∀ {v : V} {d : D} {p : PyData}, Rep K cl F v d → toPy d = some p → Dp K H v p
  | _, _, _, .non, h => by cases h; exact .non
  | _, _, _, .bl b, h => by cases h; exact .bl b
  | _, _, _, .int i, h => by cases h; exact .int i
  | _, _, _, .str x, h => by cases h; exact .str x
  | _, _, _, .tup h1 h2, h => by
    unfold toPy at h
    split at h
    · rename_i ps e
      cases h
      exact .tup (Same.sqT sm h1) (toPys_ok sm h2 e)
    · cases h
  | _, _, _, .lst h1 h2, h => by
    unfold toPy at h
    split at h
    · rename_i ps e
      cases h
      exact .lst (SqL.of (sm _ _ h1)) (toPys_ok sm h2 e)
    · cases h
  | _, _, _, .scr h1, h => by cases h
  | _, _, _, .ins h1 h2 h3, h => by cases h
  | _, _, _, .exc0 _, h => by cases h
  | _, _, _, .exc _ _ _ _, h => by cases h
  | _, _, _, .dk _ _ _, h => by cases h
  | _, _, _, .dt _ _ _, h => by cases h
theorem toPys_ok {F H : Hp} (sm : Same F H) : ∀ {vs : List V} {ds : List D} {ps : List PyData}, Reps K cl F vs ds → toPys ds = some ps → DpAll K H vs ps
  | _, _, _, .nil, h => by cases h; exact .nil
  | _, _, _, .cons r q, h => by
    unfold toPys at h
    split at h
    · rename_i p ps e1 e2
      cases h
      exact .cons (toPy_ok sm r e1) (toPys_ok sm q e2)
    · cases h
end
/-- a result as data -/
def rPy : R → Mu → Option PyData
  | .dat d, _ => toPy d
  | .fr xs, _ => match toPys xs with
    | some ps => some (.list ps)
    | none => none
  | .cel k, μ => match μ[k]? with
    | some (.l xs) => match toPys xs with
      | some ps => some (.list ps)
      | none => none
    | _ => none
  | _, _ => none
theorem rPy_ok {F H H0 : Hp} {α : List Addr} {μ : Mu} {x : V} {r : R} {p : PyData} (C : Conc K cl F α μ H) (h : RepR K cl H0 F α H x r) (q : rPy r μ = some p) : Dp K H x p := by
  cases r with
  | no => cases q
  | fc c => cases q
  | dat d => exact toPy_ok C.sub h q
  | cel k =>
    obtain ⟨a, h1, rfl⟩ := h
    dsimp only [rPy] at q
    split at q
    · rename_i xs e
      split at q
      · rename_i ps e2
        cases q
        obtain ⟨vs, h2, h3⟩ := cell_at C h1 e
        exact .lst (SqL.of h2) (toPys_ok C.sub h3 e2)
      · cases q
    · cases q
  | fr zs =>
    obtain ⟨a, vs, rfl, _, _, _, h5, h6⟩ := h
    dsimp only [rPy] at q
    split at q
    · rename_i ps e2
      cases q
      exact .lst (SqL.of h5) (toPys_ok C.sub h6 e2)
    · cases q
@[simp] def fEq (neg : Bool) : R → R → Mu → Option R
  | .dat (.int i), .dat (.int j), _ => some (.dat (.bl (xor neg (decide (i = j)))))
  | .dat (.str i), .dat (.str j), _ => some (.dat (.bl (xor neg (decide (i = j)))))
  | .dat (.bl i), .dat (.bl j), _ => some (.dat (.bl (xor neg (decide (i = j)))))
  | x, y, μ => match rPy x μ, rPy y μ with
    | some p, some q => if SeqAt.shaped p && SeqAt.shaped q then some (.dat (.bl (xor neg (PyData.eqv p q)))) else none
    | _, _ => none
def rEqAll (K : PySem.W.Frag) : R2 := fun x y H Q => rEq x y H Q ∨ rEqD K x y H Q
def rNeAll (K : PySem.W.Frag) : R2 := fun x y H Q => rNe x y H Q ∨ rNeD K x y H Q
theorem op_eqAll (hu : X.A.units + 64 < cLine) : OpR X (compareOp .Eq) (rEqAll X.K) := OpR.or op_eq (op_eqD hu)
theorem op_neAll (hu : X.A.units + 64 < cLine) : OpR X (compareOp .NotEq) (rNeAll X.K) := OpR.or op_ne (op_neD hu)
theorem dec_inj {α β : Type} [DecidableEq α] [DecidableEq β] (g : α → β) (hg : ∀ i j, g i = g j → i = j) (i j : α) : decide (g i = g j) = decide (i = j) := by
  by_cases h : i = j
  · subst h
    simp
  · rw [decide_eq_false h, decide_eq_false fun z => h (hg _ _ z)]
theorem sem_eq : OpSem K cl (rEqAll K) (fEq false) := by
  intro F α μ H H0 x y rx ry z Q C h1 h2 hz k
  unfold fEq at hz
  split at hz
  · rename_i i j
    cases hz
    rw [rep_int h1, rep_int h2]
    refine .inl ⟨rfl, ?_⟩
    rw [dec_inj V.int (fun _ _ h => V.int.inj h)]
    exact k _ F H Evo.refl C (by rw [Bool.false_xor]; exact .bl _)
  · rename_i i j
    cases hz
    rw [rep_str h1, rep_str h2]
    refine .inl ⟨rfl, ?_⟩
    rw [dec_inj V.str (fun _ _ h => V.str.inj h)]
    exact k _ F H Evo.refl C (by rw [Bool.false_xor]; exact .bl _)
  · rename_i i j
    cases hz
    rw [rep_bl h1, rep_bl h2]
    refine .inl ⟨rfl, ?_⟩
    rw [dec_inj V.bl (fun _ _ h => V.bl.inj h)]
    exact k _ F H Evo.refl C (by rw [Bool.false_xor]; exact .bl _)
  · split at hz
    · rename_i p q e1 e2
      split at hz
      · rename_i hs
        cases hz
        rw [Bool.and_eq_true] at hs
        exact .inr ⟨p, q, rPy_ok C h1 e1, rPy_ok C h2 e2, hs.1, hs.2, k _ F H Evo.refl C (by rw [Bool.false_xor]; exact .bl _)⟩
      · cases hz
    · cases hz
theorem sem_ne : OpSem K cl (rNeAll K) (fEq true) := by
  intro F α μ H H0 x y rx ry z Q C h1 h2 hz k
  unfold fEq at hz
  split at hz
  · rename_i i j
    cases hz
    rw [rep_int h1, rep_int h2]
    refine .inl ⟨rfl, ?_⟩
    rw [dec_inj V.int (fun _ _ h => V.int.inj h)]
    exact k _ F H Evo.refl C (by rw [Bool.true_xor]; exact .bl _)
  · rename_i i j
    cases hz
    rw [rep_str h1, rep_str h2]
    refine .inl ⟨rfl, ?_⟩
    rw [dec_inj V.str (fun _ _ h => V.str.inj h)]
    exact k _ F H Evo.refl C (by rw [Bool.true_xor]; exact .bl _)
  · rename_i i j
    cases hz
    rw [rep_bl h1, rep_bl h2]
    refine .inl ⟨rfl, ?_⟩
    rw [dec_inj V.bl (fun _ _ h => V.bl.inj h)]
    exact k _ F H Evo.refl C (by rw [Bool.true_xor]; exact .bl _)
  · split at hz
    · rename_i p q e1 e2
      split at hz
      · rename_i hs
        cases hz
        rw [Bool.and_eq_true] at hs
        exact .inr ⟨p, q, rPy_ok C h1 e1, rPy_ok C h2 e2, hs.1, hs.2, k _ F H Evo.refl C (by rw [Bool.true_xor]; exact .bl _)⟩
      · cases hz
    · cases hz
theorem se_eq (hu : X.A.units + 64 < cLine) (ha : SE X cl a ma) (hb : SE X cl b mb) : SE X cl (.Compare a [.Eq] [b] pos) (mOp (fEq false) ma mb) := se_cmp (op_eqAll hu) sem_eq ha hb (nomark _)
theorem st_eq (hu : X.A.units + 64 < cLine) (ha : SE X cl a ma) (hb : SE X cl b mb) : ST X cl (.Compare a [.Eq] [b] pos) (mB (mOp (fEq false) ma mb)) := st_cmp (op_eqAll hu) sem_eq ha hb (nomark _)
theorem st_ne (hu : X.A.units + 64 < cLine) (ha : SE X cl a ma) (hb : SE X cl b mb) : ST X cl (.Compare a [.NotEq] [b] pos) (mB (mOp (fEq true) ma mb)) := st_cmp (op_neAll hu) sem_ne ha hb (nomark _)

@[simp] def fIsN (neg : Bool) : R → R → Mu → Option R
  | .dat .non, .dat .non, _ => some (.dat (.bl (!neg)))
  | .no, _, _ => none
  | _, .dat .non, _ => some (.dat (.bl neg))
  | _, _, _ => none
theorem isN_of {F H H0 : Hp} {α : List Addr} {v : V} {r : R} (h : RepR K cl H0 F α H v r) (hr : r ≠ .dat .non) : decide (v = .non) = false := by
  refine decide_eq_false fun z => ?_
  subst z
  cases r with
  | no => exact h
  | dat d =>
    cases h
    exact hr rfl
  | cel k =>
    obtain ⟨_, _, h⟩ := h
    cases h
  | fr xs =>
    obtain ⟨_, _, h, _⟩ := h
    cases h
  | fc c =>
    obtain ⟨_, h, _⟩ := h
    cases h
theorem rep_non {F : Hp} {v : V} (h : Rep K cl F v .non) : v = .non := by
  cases h
  rfl
theorem sem_isN : OpSem K cl (fun x y H Q => y = .non ∧ Q (.bl (decide (x = .non))) H) (fIsN false) := by
  intro F α μ H H0 x y rx ry z Q C h1 h2 hz k
  unfold fIsN at hz
  split at hz
  · cases hz
    refine ⟨rep_non h2, ?_⟩
    rw [rep_non h1]
    exact k _ F H Evo.refl C (.bl _)
  · cases hz
  · rename_i h3 h4
    cases hz
    refine ⟨rep_non h2, ?_⟩
    rw [isN_of h1 (fun z => h3 z)]
    exact k _ F H Evo.refl C (.bl _)
  · cases hz
theorem se_isN (ha : SE X cl a ma) (hb : SE X cl b mb) : SE X cl (.Compare a [.Is] [b] pos) (mOp (fIsN false) ma mb) := se_cmp op_isN sem_isN ha hb (nomark _)
theorem st_isN (ha : SE X cl a ma) (hb : SE X cl b mb) : ST X cl (.Compare a [.Is] [b] pos) (mB (mOp (fIsN false) ma mb)) := st_cmp op_isN sem_isN ha hb (nomark _)
end
end DL
set_option Elab.async false
set_option linter.all false
set_option maxRecDepth 100000
set_option maxHeartbeats 1000000
namespace DL
open PySem L2
section
variable {X : Cx} {cl : Nat → Addr} {e a b c : Expr} {es : List Expr} {m ma mb mc : ME} {pos p : Pos} {K : PySem.W.Frag}

@[simp] def fIx : R → R → Mu → Option R
  | x, .dat (.int i), μ => match sqOf x μ with
    | some q => match atI q.all i with
      | some d => some (.dat d)
      | none => none
    | none => none
  | _, _, _ => none
theorem atI_reps {F : Hp} {vs : List V} {xs : List D} {i : Int} {d : D} (h : Reps K cl F vs xs) (q : atI xs i = some d) : ∃ v, atI vs i = some v ∧ Rep K cl F v d := by
  unfold atI at q ⊢
  rw [h.length]
  cases e : ixN xs.length i with
  | none =>
    rw [e] at q
    cases q
  | some j =>
    rw [e] at q
    obtain ⟨v, h1, h2⟩ := h.get (i := j) q
    exact ⟨v, h1, h2⟩
theorem sem_ix : OpSem K cl (rIx K) fIx := by
  intro F α μ H H0 x y rx ry z Q C h1 h2 hz k
  unfold fIx at hz
  split at hz
  · rename_i i
    split at hz
    · rename_i q e1
      split at hz
      · rename_i d e2
        cases hz
        obtain ⟨ad, vs, rfl, q1, q2⟩ := sqOf_ok C h1 e1
        obtain ⟨v, e3, q3⟩ := atI_reps q1 e2
        cases q with
        | l xs => exact .inl ⟨ad, vs, i, v, rfl, rep_int h2, q2, e3, k _ F H Evo.refl C q3⟩
        | t xs => exact .inr (.inl ⟨ad, vs, i, v, rfl, rep_int h2, q2, e3, k _ F H Evo.refl C q3⟩)
      · cases hz
    · cases hz
  · cases hz
theorem se_ix (ha : SE X cl a ma) (hb : SE X cl b mb) (hs : PlainIx b := by exact fun _ _ => rfl) : SE X cl (.Subscript a b pos) (mOp fIx ma mb) := PE.weak (pe_ix ix_seq ha hb hs) (op_imp sem_ix)

abbrev MO := Sl → Mu → Option (Option Int × Mu)
def tmo (K : PySem.W.Frag) (cl : Nat → Addr) (m : MO) : TO := fun σ H Q => ∃ F α δ μ o μ', Conc K cl F α μ H ∧ EnvOk K cl F α σ δ ∧ m δ μ = some (o, μ') ∧
  ∀ F' H', Evo F α H F' α H' → Conc K cl F' α μ' H' → Q o H'
abbrev SO (X : Cx) (cl : Nat → Addr) (e : Option Expr) (m : MO) : Prop := PO X e (tmo X.K cl m)
@[simp] def mNo : MO := fun _ μ => some (none, μ)
@[simp] def mSo (m : ME) : MO := fun δ μ => match m δ μ with
  | some (.dat (.int i), μ') => some (some i, μ')
  | _ => none
theorem so_none : SO X cl none mNo := by
  refine ⟨fun pins s σ H Q I h => po_none.run pins s σ H Q I ?_⟩
  obtain ⟨F, α, δ, μ, o, μ', C, Ee, hm, k⟩ := h
  cases hm
  exact k F H Evo.refl C
theorem so_some (h : SE X cl e m) : SO X cl (some e) (mSo m) := by
  refine ⟨fun pins s σ H Q I hw => (po_some h).run pins s σ H Q I ?_⟩
  obtain ⟨F, α, δ, μ, o, μ', C, Ee, hm, k⟩ := hw
  unfold mSo at hm
  split at hm
  · rename_i i μ1 h0
    cases hm
    exact ⟨F, α, δ, μ, _, μ', C, Ee, h0, fun v F1 H1 e1 c1 r1 => ⟨i, rep_int r1, k F1 H1 e1 c1⟩⟩
  · cases hm
def cutD (xs : List D) (lo hi : Option Int) : List D := (xs.drop (HT.sIx xs.length 0 lo)).take (HT.sIx xs.length xs.length hi - HT.sIx xs.length 0 lo)
theorem cut_reps {F : Hp} {vs : List V} {xs : List D} (h : Reps K cl F vs xs) (lo hi : Option Int) : Reps K cl F (cutV vs lo hi) (cutD xs lo hi) := by
  unfold cutV cutD
  rw [h.length]
  exact (h.drop _).take _
@[simp] def mSl (m : ME) (ml mh : MO) : ME := fun δ μ => match m δ μ with
  | none => none
  | some (x, μ1) => match ml δ μ1 with
    | none => none
    | some (lo, μ2) => match mh δ μ2 with
      | none => none
      | some (hi, μ3) => match sqOf x μ3 with
        | some (.l xs) => some (.fr (cutD xs lo hi), μ3)
        | some (.t xs) => some (.dat (.tup (cutD xs lo hi)), μ3)
        | none => none
theorem se_slice {lo hi : Option Expr} {ml mh : MO} {p2 : Pos} (h : SE X cl e m) (hl : SO X cl lo ml) (hh : SO X cl hi mh) : SE X cl (.Subscript e (.Slice lo hi none p2) pos) (mSl m ml mh) := by
  refine PE.weak (pe_slice (SlR.or sl_list sl_tupA) h hl hh) fun σ H Q ⟨F, α, δ, μ, z, μ', C, Ee, hm, k⟩ => ?_
  unfold mSl at hm
  split at hm
  · cases hm
  rename_i x1 μ1 h1
  split at hm
  · cases hm
  rename_i lo' μ2 h2
  split at hm
  · cases hm
  rename_i hi' μ3 h3
  refine ⟨F, α, δ, μ, x1, μ1, C, Ee, h1, fun v F1 H1 e1 c1 r1 => ⟨F1, α, δ, μ1, lo', μ2, c1, Ee.step e1, h2, fun F2 H2 e2 c2 => ⟨F2, α, δ, μ2, hi', μ3, c2, (Ee.step e1).step e2, h3, fun F3 H3 e3 c3 => ?_⟩⟩⟩
  have r3 := r1.step (e2.trans e3)
  split at hm
  · rename_i xs e4
    cases hm
    obtain ⟨ad, vs, rfl, q1, q2⟩ := sqOf_ok c3 r3 e4
    refine .inl ⟨ad, vs, rfl, q2, fun l hl' => ?_⟩
    obtain ⟨e5, c5, r5⟩ := c3.newL hl' (cut_reps q1 lo' hi')
    exact k _ _ _ (e1.trans (e2.trans (e3.trans e5))) c5 (r5.back fun p hp => e1.dom p (e2.dom p (e3.dom p hp)))
  · rename_i xs e4
    cases hm
    obtain ⟨ad, vs, rfl, q1, q2⟩ := sqOf_ok c3 r3 e4
    have q2' : SqT X.K H3 ad vs := q2
    have cr := cut_reps q1 lo' hi'
    refine .inr ⟨ad, vs, rfl, q2', fun hz => ?_, fun _ l hl' => ?_⟩
    · have e6 : cutD xs lo' hi' = xs := by
        unfold cutD
        have l1 : vs.length = xs.length := q1.length
        rw [l1] at hz
        rw [hz.1, hz.2, List.drop_zero, Nat.sub_zero, List.take_length]
      rw [e6] at k
      refine k _ F3 H3 (e1.trans (e2.trans e3)) c3 ?_
      -- the tuple itself: its place is known already by the value
      cases x1 with
      | no => exact absurd e4 (by simp [sqOf, lstOf])
      | cel j =>
        simp only [sqOf] at e4
        cases e7 : lstOf (.cel j) μ' with
        | none =>
          rw [e7] at e4
          cases e4
        | some w =>
          rw [e7] at e4
          cases e4
      | fr ys => exact absurd e4 (by simp [sqOf, lstOf])
      | fc c => exact absurd e4 (by simp [sqOf, lstOf])
      | dat d =>
        cases d with
        | tup ys =>
          have e8 : ys = xs := by
            simp only [sqOf] at e4
            cases e4
            rfl
          rw [← e8]
          exact r3
        | lst ys => exact absurd e4 (by simp [sqOf, lstOf])
        | scr ys => exact absurd e4 (by simp [sqOf])
        | non => exact absurd e4 (by simp [sqOf, lstOf])
        | bl _ => exact absurd e4 (by simp [sqOf, lstOf])
        | int _ => exact absurd e4 (by simp [sqOf, lstOf])
        | str _ => exact absurd e4 (by simp [sqOf, lstOf])
        | ins _ _ => exact absurd e4 (by simp [sqOf, lstOf])
        | exc _ _ _ => exact absurd e4 (by simp [sqOf, lstOf])
        | dk _ _ => exact absurd e4 (by simp [sqOf, lstOf])
        | dt _ _ => exact absurd e4 (by simp [sqOf, lstOf])
    · obtain ⟨e5, c5⟩ := c3.new (o := .tup _) hl'
      exact k _ _ _ (e1.trans (e2.trans (e3.trans e5))) c5 (.tup (SqT.of upd_same) (cr.mono e5.ff))
  · cases hm

def CbSem (K : PySem.W.Frag) (cl : Nat → Addr) (r : List V → Hp → VK → Prop) (f : List R → Mu → Option R) : Prop := ∀ (F : Hp) (α : List Addr) (μ : Mu) (H : Hp) (vs : List V) (rs : List R) (z : R) (Q : VK), Conc K cl F α μ H → ArgRs K cl F α vs rs → f rs μ = some z →
  (∀ v F' H', Evo F α H F' α H' → Conc K cl F' α μ H' → RepR K cl H F' α H' v z → Q v H') → r vs H Q
@[simp] def mCb (f : List R → Mu → Option R) (ms : MA) : ME := fun δ μ => match ms δ μ with
  | none => none
  | some (rs, μ1) => match f rs μ1 with
    | none => none
    | some z => some (z, μ1)
theorem se_cb {r : List V → Hp → VK → Prop} {f : List R → Mu → Option R} {ms : MA} (h : PE X e (tCB r (tma X.K cl ms))) (hf : CbSem X.K cl r f) : SE X cl e (mCb f ms) := by
  refine PE.weak h fun σ H Q ⟨F, α, δ, μ, z, μ', C, Ee, hm, k⟩ => ?_
  unfold mCb at hm
  split at hm
  · cases hm
  rename_i rs μ1 h1
  split at hm
  · cases hm
  rename_i z1 h2
  cases hm
  refine ⟨F, α, δ, μ, rs, μ', C, Ee, h1, fun vs F1 H1 e1 c1 q1 => ?_⟩
  exact hf F1 α μ' H1 vs rs z Q c1 q1 h2 fun v F2 H2 e2 c2 r2 => k v F2 H2 (e1.trans e2) c2 (r2.back e1.dom)
theorem args1 {F : Hp} {α : List Addr} {vs : List V} {r : R} (h : ArgRs K cl F α vs [r]) : ∃ v, vs = [v] ∧ ArgR K cl F α v r := by
  cases h with
  | cons h1 h2 =>
    cases h2
    exact ⟨_, rfl, h1⟩
theorem args2 {F : Hp} {α : List Addr} {vs : List V} {r s : R} (h : ArgRs K cl F α vs [r, s]) : ∃ v w, vs = [v, w] ∧ ArgR K cl F α v r ∧ ArgR K cl F α w s := by
  cases h with
  | cons h1 h2 =>
    obtain ⟨w, rfl, h3⟩ := args1 h2
    exact ⟨_, w, rfl, h1, h3⟩
theorem argR_rep {F H H0 : Hp} {α : List Addr} {v : V} {r : R} (h : ArgR K cl F α v r) : RepR K cl H0 F α H v r := by
  cases r with
  | no => exact h
  | dat d => exact h
  | cel k => exact h
  | fr xs => exact h.elim
  | fc c => exact h.elim
@[simp] def fAbs : List R → Mu → Option R
  | [.dat (.int i)], _ => some (.dat (.int (if i < 0 then -i else i)))
  | _, _ => none
theorem sem_abs : CbSem K cl (fun xs H Q => ∃ i, xs = [.int i] ∧ Q (.int (if i < 0 then -i else i)) H) fAbs := by
  intro F α μ H vs rs z Q C h hz k
  unfold fAbs at hz
  split at hz
  · rename_i i
    cases hz
    obtain ⟨v, rfl, h1⟩ := args1 h
    exact ⟨i, by rw [rep_int h1], k _ F H Evo.refl C (.int _)⟩
  · cases hz
@[simp] def fMin : List R → Mu → Option R
  | [.dat (.int i), .dat (.int j)], _ => some (.dat (.int (if j < i then j else i)))
  | _, _ => none
@[simp] def fMax : List R → Mu → Option R
  | [.dat (.int i), .dat (.int j)], _ => some (.dat (.int (if j > i then j else i)))
  | _, _ => none
theorem sem_min : CbSem K cl (fun xs H Q => ∃ i j, xs = [.int i, .int j] ∧ Q (.int (if j < i then j else i)) H) fMin := by
  intro F α μ H vs rs z Q C h hz k
  unfold fMin at hz
  split at hz
  · rename_i i j
    cases hz
    obtain ⟨v, w, rfl, h1, h2⟩ := args2 h
    exact ⟨i, j, by rw [rep_int h1, rep_int h2], k _ F H Evo.refl C (.int _)⟩
  · cases hz
theorem sem_max : CbSem K cl (fun xs H Q => ∃ i j, xs = [.int i, .int j] ∧ Q (.int (if j > i then j else i)) H) fMax := by
  intro F α μ H vs rs z Q C h hz k
  unfold fMax at hz
  split at hz
  · rename_i i j
    cases hz
    obtain ⟨v, w, rfl, h1, h2⟩ := args2 h
    exact ⟨i, j, by rw [rep_int h1, rep_int h2], k _ F H Evo.refl C (.int _)⟩
  · cases hz
@[simp] def fInt : List R → Mu → Option R
  | [.dat (.int i)], _ => some (.dat (.int i))
  | [.dat (.bl k)], _ => some (.dat (.int (if k then 1 else 0)))
  | _, _ => none
theorem sem_int : CbSem K cl (fun xs H Q => (∃ i, xs = [.int i] ∧ Q (.int i) H) ∨ ∃ k, xs = [.bl k] ∧ Q (.int (if k then 1 else 0)) H) fInt := by
  intro F α μ H vs rs z Q C h hz k
  unfold fInt at hz
  split at hz
  · rename_i i
    cases hz
    obtain ⟨v, rfl, h1⟩ := args1 h
    exact .inl ⟨i, by rw [rep_int h1], k _ F H Evo.refl C (.int _)⟩
  · rename_i i
    cases hz
    obtain ⟨v, rfl, h1⟩ := args1 h
    exact .inr ⟨i, by rw [rep_bl h1], k _ F H Evo.refl C (.int _)⟩
  · cases hz
@[simp] def fLen : List R → Mu → Option R
  | [r], μ => match sqOf r μ with
    | some q => some (.dat (.int q.all.length))
    | none => none
  | _, _ => none
theorem sem_len : CbSem K cl (fun xs H Q => ∃ p ys, xs = [.ref p] ∧ (SqL K H p ys ∨ SqT K H p ys) ∧ Q (.int ys.length) H) fLen := by
  intro F α μ H vs rs z Q C h hz k
  unfold fLen at hz
  split at hz
  · rename_i r
    split at hz
    · rename_i q e1
      cases hz
      obtain ⟨v, rfl, h1⟩ := args1 h
      obtain ⟨ad, ws, rfl, q1, q2⟩ := sqOf_ok (H0 := H) C (argR_rep h1) e1
      refine ⟨ad, ws, rfl, ?_, ?_⟩
      · cases q with
        | l xs => exact .inl q2
        | t xs => exact .inr q2
      · rw [q1.length]
        exact k _ F H Evo.refl C (.int _)
    · cases hz
  · cases hz
@[simp] def fList : List R → Mu → Option R
  | [r], μ => match sqOf r μ with
    | some q => some (.fr q.all)
    | none => none
  | _, _ => none
theorem sem_list : CbSem K cl (fun xs H Q => ∃ p ys, xs = [.ref p] ∧ (SqL K H p ys ∨ SqT K H p ys) ∧ ∀ l, H l = none → Q (.ref l) (upd H l (.lst ys))) fList := by
  intro F α μ H vs rs z Q C h hz k
  unfold fList at hz
  split at hz
  · rename_i r
    split at hz
    · rename_i q e1
      cases hz
      obtain ⟨v, rfl, h1⟩ := args1 h
      obtain ⟨ad, ws, rfl, q1, q2⟩ := sqOf_ok (H0 := H) C (argR_rep h1) e1
      refine ⟨ad, ws, rfl, ?_, fun l hl => ?_⟩
      · cases q with
        | l xs => exact .inl q2
        | t xs => exact .inr q2
      · obtain ⟨e5, c5, r5⟩ := C.newL hl q1
        exact k _ _ _ e5 c5 r5
    · cases hz
  · cases hz
@[simp] def fTuple : List R → Mu → Option R
  | [.dat (.tup xs)], _ => some (.dat (.tup xs))
  | [r], μ => match sqOf r μ with
    | some (.l xs) => some (.dat (.tup xs))
    | _ => none
  | _, _ => none
def blsOf : List D → Option (List Bool)
  | [] => some []
  | .bl i :: r => match blsOf r with
    | some is => some (i :: is)
    | none => none
  | _ => none
theorem blsOf_map : ∀ {xs : List D} {bs : List Bool}, blsOf xs = some bs → xs = bs.map D.bl
  | [], _, h => by
    cases h
    rfl
  | .bl i :: r, ns, h => by
    unfold blsOf at h
    split at h
    · rename_i is h'
      cases h
      rw [blsOf_map h']
      rfl
    · cases h
  | .non :: _, _, h => by cases h
  | .int _ :: _, _, h => by cases h
  | .str _ :: _, _, h => by cases h
  | .tup _ :: _, _, h => by cases h
  | .lst _ :: _, _, h => by cases h
  | .scr _ :: _, _, h => by cases h
  | .ins _ _ :: _, _, h => by cases h
  | .exc _ _ _ :: _, _, h => by cases h
  | .dk _ _ :: _, _, h => by cases h
  | .dt _ _ :: _, _, h => by cases h
theorem Reps.of_bls {F : Hp} : ∀ {bs : List Bool} {vs : List V}, Reps K cl F vs (bs.map D.bl) → vs = bs.map V.bl
  | [], _, h => by
    cases h
    rfl
  | n :: ns, _, h => by
    cases h with
    | cons r q =>
      cases r
      rw [Reps.of_bls q]
      rfl
theorem blsOf_ok {F : Hp} {xs : List D} {bs : List Bool} {vs : List V} (h : blsOf xs = some bs) (q : Reps K cl F vs xs) : vs = bs.map V.bl := by
  rw [blsOf_map h] at q
  exact q.of_bls
@[simp] def fAll : List R → Mu → Option R
  | [r], μ => match lstOf r μ with
    | some xs => match blsOf xs with
      | some bs => some (.dat (.bl (bs.all id)))
      | none => none
    | none => none
  | _, _ => none
@[simp] def fAny : List R → Mu → Option R
  | [r], μ => match lstOf r μ with
    | some xs => match blsOf xs with
      | some bs => some (.dat (.bl (bs.any id)))
      | none => none
    | none => none
  | _, _ => none
theorem sem_all : CbSem K cl (rAll K) fAll := by
  intro F α μ H vs rs z Q C h hz k
  unfold fAll at hz
  split at hz
  · rename_i r
    split at hz
    · rename_i xs e1
      split at hz
      · rename_i bs e2
        cases hz
        obtain ⟨v, rfl, h1⟩ := args1 h
        obtain ⟨ad, ws, rfl, q1, q2⟩ := lstOf_ok (H0 := H) C (argR_rep h1) e1
        rw [blsOf_ok e2 q2] at q1
        exact ⟨ad, bs, rfl, SqL.of q1, k _ F H Evo.refl C (.bl _)⟩
      · cases hz
    · cases hz
  · cases hz
variable {ms : MA}
theorem se_abs (hm : X.mg "abs" = none) (ha : SA X cl [a] ms) (hg : Gl X "abs" := by rfl) (he : starEach (a :: []) X.env = (false, eval a X.env) :: starEach [] X.env := by rfl) : SE X cl (.Call (.Name "abs" p) [a] [] pos) (mCb fAbs ms) := se_cb (pe_callB call_abs hg hm (by decide +kernel) ha (he := he)) sem_abs
theorem se_int1 (hm : X.mg "int" = none) (ha : SA X cl [a] ms) (hg : Gl X "int" := by rfl) (he : starEach (a :: []) X.env = (false, eval a X.env) :: starEach [] X.env := by rfl) : SE X cl (.Call (.Name "int" p) [a] [] pos) (mCb fInt ms) := se_cb (pe_callTy call_int1 hg hm (by decide +kernel) ha (he := he)) sem_int
theorem se_len (hm : X.mg "len" = none) (ha : SA X cl [a] ms) (hg : Gl X "len" := by rfl) (he : starEach (a :: []) X.env = (false, eval a X.env) :: starEach [] X.env := by rfl) : SE X cl (.Call (.Name "len" p) [a] [] pos) (mCb fLen ms) := se_cb (pe_callB call_len_seq hg hm (by decide +kernel) ha (he := he)) sem_len
theorem se_list (hm : X.mg "list" = none) (ha : SA X cl [a] ms) (hg : Gl X "list" := by rfl) (he : starEach (a :: []) X.env = (false, eval a X.env) :: starEach [] X.env := by rfl) : SE X cl (.Call (.Name "list" p) [a] [] pos) (mCb fList ms) := se_cb (pe_callTy call_list_of hg hm (by decide +kernel) ha (he := he)) sem_list
theorem se_all (hm : X.mg "all" = none) (ha : SA X cl [a] ms) (hc : X.calm = true := by rfl) (hg : Gl X "all" := by rfl) (he : starEach (a :: []) X.env = (false, eval a X.env) :: starEach [] X.env := by rfl) : SE X cl (.Call (.Name "all" p) [a] [] pos) (mCb fAll ms) := se_cb (pe_callB (cr_all hc) hg hm (by decide +kernel) ha (he := he)) sem_all
theorem se_min (hm : X.mg "min" = none) (ha : SA X cl [a, b] ms) (hc : X.calm = true := by rfl) (hg : Gl X "min" := by rfl) (he : starEach (a :: [b]) X.env = (false, eval a X.env) :: starEach [b] X.env := by rfl) (hpl : (backTo pos (starEach [b] X.env)).any (·.1) = false := by rfl) : SE X cl (.Call (.Name "min" p) [a, b] [] pos) (mCb fMin ms) := se_cb (pe_callB (call_min2 hc) hg hm (by decide +kernel) ha (he := he) (hpl := hpl)) sem_min
theorem se_max (hm : X.mg "max" = none) (ha : SA X cl [a, b] ms) (hc : X.calm = true := by rfl) (hg : Gl X "max" := by rfl) (he : starEach (a :: [b]) X.env = (false, eval a X.env) :: starEach [b] X.env := by rfl) (hpl : (backTo pos (starEach [b] X.env)).any (·.1) = false := by rfl) : SE X cl (.Call (.Name "max" p) [a, b] [] pos) (mCb fMax ms) := se_cb (pe_callB (call_max2 hc) hg hm (by decide +kernel) ha (he := he) (hpl := hpl)) sem_max
end
end DL
set_option Elab.async false
set_option linter.all false
set_option maxRecDepth 100000
set_option maxHeartbeats 1000000
namespace DL
open PySem PySem.Spec PyProof.Rows L2
section
variable {X : Cx} {cl : Nat → Addr} {e a b c : Expr} {es : List Expr} {m ma mb mc : ME} {pos p : Pos} {K : PySem.W.Frag}

theorem Conc.garb {F H : Hp} {α : List Addr} {μ : Mu} {p : Addr} {o : HO} (C : Conc K cl F α μ H) (hp : H p = none) : Evo F α H F α (upd H p o) ∧ Conc K cl F α μ (upd H p o) := by
  refine ⟨⟨Same.refl F, ⟨[], by simp⟩, fun a u h _ => ?_, fun a h => ?_, fun a u h q => (by rw [h] at q; cases q), fun a h q => absurd h q, fun a x u h => by rw [upd_ne (ne_of_none h hp)]; exact h⟩, ⟨fun a u h => ?_, C.len, C.nd, fun k a xs h1 h2 => ?_, C.out⟩⟩
  · rw [upd_ne (ne_of_none h hp)]
    exact h
  · by_cases z : a = p
    · rw [z]
      exact hp
    · rw [upd_ne z] at h
      exact h
  · rw [upd_ne (ne_of_none (C.sub a u h) hp)]
    exact C.sub a u h
  · have q := C.cell k a xs h1 h2
    obtain ⟨u, q1⟩ := q.some
    rw [upd_ne (ne_of_none q1 hp)]
    exact q

@[simp] def tag (μ : Mu) : R → Option String
  | .dat .non => some "NoneType"
  | .dat (.bl _) => some "bool"
  | .dat (.int _) => some "int"
  | .dat (.str _) => some "str"
  | .dat (.tup _) => some "tuple"
  | .dat (.lst _) => some "list"
  | .cel k => match μ[k]? with
    | some (.l _) => some "list"
    | some (.n _) => some "list"
    | _ => none
  | .fr _ => some "list"
  | _ => none
def isB (a b : String) : Bool := a == b || (a == "bool" && b == "int")
theorem tag_ok {F H H0 : Hp} {α : List Addr} {μ : Mu} {v : V} {r : R} {t : String} (C : Conc K cl F α μ H) (h : RepR K cl H0 F α H v r) (q : tag μ r = some t) : TyX K H v (.type t) ∧ (t = "NoneType" ∨ t = "bool" ∨ t = "int" ∨ t = "str" ∨ t = "tuple" ∨ t = "list") := by
  cases r with
  | no => cases q
  | cel k =>
    obtain ⟨a, h1, rfl⟩ := h
    have e : tag μ (.cel k) = match μ[k]? with
      | some (.l _) => some "list"
      | some (.n _) => some "list"
      | _ => none := rfl
    rw [e] at q
    split at q
    · rename_i h3
      cases q
      obtain ⟨vs, h2, _⟩ := C.cell k a _ h1 h3
      exact ⟨.base (.lst h2), by simp⟩
    · rename_i h3
      cases q
      obtain ⟨vs, h2, _⟩ := C.cell k a _ h1 h3
      exact ⟨.base (.lst h2), by simp⟩
    · cases q
  | fc c => cases q
  | fr xs =>
    cases q
    obtain ⟨a, vs, rfl, _, _, _, h5, _⟩ := h
    exact ⟨.base (.lst h5), by simp⟩
  | dat d =>
    cases h with
    | non =>
      cases q
      exact ⟨.base .non, by simp⟩
    | bl b =>
      cases q
      exact ⟨.base (.bl b), by simp⟩
    | int b =>
      cases q
      exact ⟨.base (.int b), by simp⟩
    | str b =>
      cases q
      exact ⟨.base (.str b), by simp⟩
    | lst h1 h2 =>
      cases q
      exact ⟨.base (.lst (C.sub _ _ h1)), by simp⟩
    | tup h1 h2 =>
      cases q
      refine ⟨?_, by simp⟩
      rcases Same.sqT C.sub h1 with (h | ⟨o, h⟩) | ⟨o, its, n, h3, h4, _⟩
      · exact .base (.tup h)
      · exact .fTuple h
      · exact .kTuple h3 h4
    | scr h1 => cases q
    | ins h1 h2 h3 => cases q
    | exc0 _ => cases q
    | exc _ _ _ _ => cases q
    | dk _ _ _ => cases q
    | dt _ _ _ => cases q
theorem kit_isB {t T : String} (ht : t = "NoneType" ∨ t = "bool" ∨ t = "int" ∨ t = "str" ∨ t = "tuple" ∨ t = "list") (hT : T = "bool" ∨ T = "int" ∨ T = "str" ∨ T = "tuple" ∨ T = "list") : PySem.W.kitOne K (.type t) (.type T) = some (isB t T) := by
  refine kit_ty ?_
  rcases ht with rfl | rfl | rfl | rfl | rfl | rfl <;> rcases hT with rfl | rfl | rfl | rfl | rfl <;> decide +kernel
@[simp] def mIsi (T : String) (m : ME) : ME := fun δ μ => match m δ μ with
  | none => none
  | some (r, μ1) => match tag μ1 r with
    | some t => some (.dat (.bl (isB t T)), μ1)
    | none => none
@[simp] def mIsi2 (T U : String) (m : ME) : ME := fun δ μ => match m δ μ with
  | none => none
  | some (r, μ1) => match tag μ1 r with
    | some t => some (.dat (.bl (isB t T || isB t U)), μ1)
    | none => none
abbrev BT (T : String) : Prop := T = "bool" ∨ T = "int" ∨ T = "str" ∨ T = "tuple" ∨ T = "list"
theorem se_isi {T : String} {Ts : Str} {pT : Pos} (hm : X.mg "isinstance" = none) (hmT : X.mg Ts = none) (hT : BT T) (hvT : bootBuiltins Ts = some (.type T)) (he : SE X cl a m) (hg : Gl X "isinstance" := by rfl) (hgT : Gl X Ts := by rfl) (hn : Ts ≠ "__name__" := by decide) (hd : (Ts == ("__debug__" : Str)) = false := by decide)
    (hs : starEach (a :: [.Name Ts pT]) X.env = (false, eval a X.env) :: starEach [.Name Ts pT] X.env := by rfl) (hs2 : starEach (.Name Ts pT :: []) X.env = (false, eval (.Name Ts pT) X.env) :: starEach [] X.env := by rfl) (hpl : (backTo pos (starEach [.Name Ts pT] X.env)).any (·.1) = false := by rfl) :
    SE X cl (.Call (.Name "isinstance" p) [a, .Name Ts pT] [] pos) (mIsi T m) := by
  refine PE.weak (pe_callB call_isi hg hm (by decide +kernel) (pa_cons he (pa_cons (pe_bltn (v := .ty T) hgT hmT hvT rfl hn hd) pa_nil hs2) hs) (he := hs) (hpl := hpl)) fun σ H Q ⟨F, α, δ, μ, z, μ', C, Ee, hm, k⟩ => ?_
  unfold mIsi at hm
  split at hm
  · cases hm
  rename_i r1 μ1 h1
  split at hm
  · rename_i t h2
    cases hm
    refine ⟨F, α, δ, μ, r1, μ', C, Ee, h1, fun v F1 H1 e1 c1 q1 => ?_⟩
    obtain ⟨q2, q3⟩ := tag_ok c1 q1 h2
    exact ⟨v, .ty T, .type t, .type T, _, rfl, .ty T, q2, kit_isB q3 hT, k _ F1 H1 e1 c1 (.bl _)⟩
  · cases hm
theorem se_isi2 {T U : String} {Ts Us : Str} {pT pU pp : Pos} {x1 : Nat} (hm : X.mg "isinstance" = none) (hmT : X.mg Ts = none) (hmU : X.mg Us = none) (hT : BT T) (hU : BT U) (hvT : bootBuiltins Ts = some (.type T)) (hvU : bootBuiltins Us = some (.type U)) (he : SE X cl a m)
    (hg : Gl X "isinstance" := by rfl) (hgT : Gl X Ts := by rfl) (hgU : Gl X Us := by rfl) (hn : Ts ≠ "__name__" := by decide) (hd : (Ts == ("__debug__" : Str)) = false := by decide) (hnU : Us ≠ "__name__" := by decide) (hdU : (Us == ("__debug__" : Str)) = false := by decide)
    (hs : starEach (a :: [.Tuple [.Name Ts pT, .Name Us pU] x1 pp]) X.env = (false, eval a X.env) :: starEach [.Tuple [.Name Ts pT, .Name Us pU] x1 pp] X.env := by rfl)
    (hs2 : starEach (.Tuple [.Name Ts pT, .Name Us pU] x1 pp :: []) X.env = (false, eval (.Tuple [.Name Ts pT, .Name Us pU] x1 pp) X.env) :: starEach [] X.env := by rfl)
    (hs3 : starEach (.Name Ts pT :: [.Name Us pU]) X.env = (false, eval (.Name Ts pT) X.env) :: starEach [.Name Us pU] X.env := by rfl) (hs4 : starEach (.Name Us pU :: []) X.env = (false, eval (.Name Us pU) X.env) :: starEach [] X.env := by rfl)
    (hpl : (backTo pos (starEach [.Tuple [.Name Ts pT, .Name Us pU] x1 pp] X.env)).any (·.1) = false := by rfl) :
    SE X cl (.Call (.Name "isinstance" p) [a, .Tuple [.Name Ts pT, .Name Us pU] x1 pp] [] pos) (mIsi2 T U m) := by
  refine PE.weak (pe_callB call_isiT hg hm (by decide +kernel) (pa_cons he (pa_cons (pe_tup (pa_cons (pe_bltn (v := .ty T) hgT hmT hvT rfl hn hd) (pa_cons (pe_bltn (v := .ty U) hgU hmU hvU rfl hnU hdU) pa_nil hs4) hs3)) pa_nil hs2) hs) (he := hs) (hpl := hpl)) fun σ H Q ⟨F, α, δ, μ, z, μ', C, Ee, hm, k⟩ => ?_
  unfold mIsi2 at hm
  split at hm
  · cases hm
  rename_i r1 μ1 h1
  split at hm
  · rename_i t h2
    cases hm
    refine ⟨F, α, δ, μ, r1, μ', C, Ee, h1, fun v F1 H1 e1 c1 q1 => ?_⟩
    refine ⟨sz_of (show 2 ≤ 100000 by decide), fun tp htp => ?_⟩
    obtain ⟨e2, c2⟩ := c1.garb (o := .tup [.ty T, .ty U]) htp
    obtain ⟨q2, q3⟩ := tag_ok c2 (q1.step e2) h2
    refine ⟨v, tp, [.ty T, .ty U], .type t, [.type T, .type U], isB t T || isB t U, rfl, upd_same, .cons (.ty T) (.cons (.ty U) .nil), q2, ?_, k _ F1 _ (e1.trans e2) c2 (.bl _)⟩
    refine kitAny_cons (kit_isB q3 hT) (fun h => ?_) (fun h => by rw [h]; rfl)
    rw [h]
    exact kitAny_cons (kit_isB q3 hU) (fun h => by rw [h]; rfl) (fun h => by rw [h]; rfl)
  · cases hm

def rgD (a b : Int) : List D := (List.range (b - a).toNat).map fun i => D.int (a + (i : Nat))
def rgOk (a b : Int) : Bool := decide (-(2 ^ 40) ≤ a ∧ a < 2 ^ 40 ∧ -(2 ^ 40) ≤ b ∧ b < 2 ^ 40 ∧ b - a ≤ 100000)
@[simp] def mRg1 (m : ME) : ME := fun δ μ => match m δ μ with
  | some (.dat (.int j), μ1) => if rgOk 0 j then some (.fr (rgD 0 j), μ1) else none
  | _ => none
@[simp] def mRg2 (ma mb : ME) : ME := fun δ μ => match ma δ μ with
  | some (.dat (.int i), μ1) => match mb δ μ1 with
    | some (.dat (.int j), μ2) => if rgOk i j then some (.fr (rgD i j), μ2) else none
    | _ => none
  | _ => none
end

abbrev MF := List R → Mu → Option (R × Mu)
/-- the cells that stay name no others -/
def lowM (n : Nat) (μ : Mu) : Bool := (μ.take n).all (Cel.low n)
@[simp] theorem lowM_0 (μ : Mu) : lowM 0 μ = true := by
  unfold lowM
  rw [List.take_zero]
  rfl
@[simp] theorem lowM_1 (xs : List D) (μ : Mu) : lowM 1 (.l xs :: μ) = true := by
  unfold lowM
  rw [List.take_succ_cons, List.take_zero]
  rfl
@[simp] def retR (n : Nat) (r : R) (μ : Mu) : Option (R × Mu) := match lowM n μ with
  | false => none
  | true => match r with
    | .cel k => if k < n then some (.cel k, μ.take n) else match μ[k]? with
      | some (.l xs) => some (.fr xs, μ.take n)
      | some c => if c.low n = true then some (.fc c, μ.take n) else none
      | none => none
    | .no => none
    | .dat d => some (.dat d, μ.take n)
    | .fr xs => some (.fr xs, μ.take n)
    | .fc c => if c.low n = true then some (.fc c, μ.take n) else none
@[simp] def mDef (n N : Nat) (body : MS) : MF := fun rs μ => if rs.length = n then
    match body (rs ++ List.replicate (N - n) .no) μ with
    | some (.rt r μ') => retR μ.length r μ'
    | some (.nx _ μ') => retR μ.length (.dat .non) μ'
    | _ => none
  else none
def spM (K : PySem.W.Frag) (cl : Nat → Addr) (n : Nat) (m : MF) : Sp := fun vs H Q _ => ∃ F α μ rs r μ', vs.length = n ∧ Conc K cl F α μ H ∧ ArgRs K cl F α vs rs ∧ m rs μ = some (r, μ') ∧
  ∀ v F' H', Evo F α H F' α H' → Conc K cl F' α μ' H' → RepR K cl H F' α H' v r → Q v H'
section
variable {K : PySem.W.Frag} {cl : Nat → Addr}
theorem ArgRs.length {F : Hp} {α : List Addr} : ∀ {vs : List V} {rs : List R}, ArgRs K cl F α vs rs → vs.length = rs.length
  | _, _, .nil => rfl
  | _, _, .cons _ q => congrArg (· + 1) (ArgRs.length q)
theorem ArgRs.get {F : Hp} {α : List Addr} : ∀ {vs : List V} {rs : List R} {i : Nat} {r : R}, ArgRs K cl F α vs rs → rs[i]? = some r → ∃ v, vs[i]? = some v ∧ ArgR K cl F α v r
  | _, _, _, _, .nil, h => by simp at h
  | _, _, 0, _, .cons r _, h => by
    simp at h
    subst h
    exact ⟨_, rfl, r⟩
  | _, _, i + 1, _, .cons _ q, h => by
    obtain ⟨v, e, r⟩ := ArgRs.get (i := i) q (by simpa using h)
    exact ⟨v, by simpa using e, r⟩
theorem env_start {F : Hp} {α : List Addr} {N : List Str} {vs : List V} {rs : List R} (h : ArgRs K cl F α vs rs) : EnvOk K cl F α (L2.start N vs) (rs ++ List.replicate (N.length - rs.length) .no) := by
  have hl := h.length
  have key : ∀ (i : Nat) (r : R), (rs ++ List.replicate (N.length - rs.length) R.no)[i]? = some r → r ≠ .no → rs[i]? = some r ∧ i < vs.length := by
    intro i r q hr
    by_cases hi : i < rs.length
    · rw [List.getElem?_append_left hi] at q
      exact ⟨q, by omega⟩
    · rw [List.getElem?_append_right (by omega), List.getElem?_replicate] at q
      split at q
      · cases q
        exact absurd rfl hr
      · cases q
  have get : ∀ (i : Nat) (v : V), i < vs.length → vs[i]? = some v → (L2.start N vs)[i]? = some (some v) := by
    intro i v hi q
    unfold L2.start
    rw [List.getElem?_append_left (by simpa using hi), List.getElem?_map, q]
    rfl
  refine ⟨?_, fun i d q => ?_, fun i k q => ?_⟩
  · unfold L2.start
    simp only [List.length_append, List.length_map, List.length_replicate]
    omega
  · obtain ⟨q1, q2⟩ := key i _ q (fun z => nomatch z)
    obtain ⟨v, h1, h2⟩ := h.get q1
    exact ⟨v, get i v q2 h1, h2⟩
  · obtain ⟨q1, q2⟩ := key i _ q (fun z => nomatch z)
    obtain ⟨v, h1, a, h2, h3⟩ := h.get q1
    exact ⟨a, h2, by rw [← h3]; exact get i v q2 h1⟩
theorem Conc.cut {F H : Hp} {α α' : List Addr} {μ : Mu} {n : Nat} (C : Conc K cl F α' μ H) (e : ∃ x, α' = α ++ x) (hn : α.length = n) (hl : lowM n μ = true) : Conc K cl F α (μ.take n) H := by
  obtain ⟨x, rfl⟩ := e
  refine ⟨C.sub, ?_, (List.nodup_append.mp C.nd).1, fun k a xs h1 h2 => ?_, fun a h => C.out a (List.mem_append_left _ h)⟩
  · have := C.len
    rw [List.length_append] at this
    rw [List.length_take, hn]
    omega
  · have hk := (List.getElem?_eq_some_iff.mp h1).1
    have lo : xs.low α.length = true := by
      rw [hn]
      exact List.all_eq_true.mp hl xs (List.mem_of_getElem? h2)
    refine (C.cell k a xs (by rw [List.getElem?_append_left hk]; exact h1) ?_).cut lo
    rw [List.getElem?_take_of_lt (by omega)] at h2
    exact h2
theorem Evo.cut {F H F' H' : Hp} {α α' : List Addr} (e : Evo F α H F' α' H') : Evo F α H F' α H' := ⟨e.ff, ⟨[], by simp⟩, e.hh, e.dom, e.fre, fun a h q => absurd h q, e.frz⟩
theorem def_core {N : List Str} {n : Nat} {body : MS} {vs : List V} {H : Hp} {Q : VK} {E : XK} (h : spM K cl n (mDef n N.length body) vs H Q E) : tms K cl body { nx := fun _ H' => Q .non H', rt := Q } (L2.start N vs) H := by
  obtain ⟨F, α, μ, rs, r, μ', hl, C, ha, hm, k⟩ := h
  unfold mDef at hm
  split at hm
  · rename_i hrs
    have en := env_start (N := N) ha
    rw [hrs] at en
    split at hm
    · rename_i r1 μ1 h1
      refine ⟨F, α, _, μ, _, C, en, h1, fun v F1 α1 H1 e1 c1 q1 => ?_⟩
      have ln := C.len
      unfold retR at hm
      split at hm
      · cases hm
      rename_i hlow
      have cc := c1.cut e1.ext C.len hlow
      split at hm
      · rename_i j
        obtain ⟨a, q2, rfl⟩ := q1
        split at hm
        · rename_i hj
          cases hm
          refine k _ F1 H1 e1.cut cc ⟨a, ?_, rfl⟩
          obtain ⟨x, e⟩ := e1.ext
          rw [e, List.getElem?_append_left (by rw [C.len]; exact hj)] at q2
          exact q2
        · rename_i hj
          have na : a ∉ α := fun z => by
            obtain ⟨x, e⟩ := e1.ext
            have nd := c1.nd
            rw [e] at nd q2
            rw [List.getElem?_append_right (by rw [C.len]; omega)] at q2
            exact (List.nodup_append.mp nd).2.2 a z a (List.mem_of_getElem? q2) rfl
          split at hm
          · rename_i xs e2
            cases hm
            obtain ⟨us, q3, q4⟩ := c1.cell j a _ q2 e2
            exact k _ F1 H1 e1.cut cc ⟨a, us, rfl, e1.fra a (List.mem_of_getElem? q2) na, c1.out a (List.mem_of_getElem? q2), na, q3, q4⟩
          · rename_i c _ e2
            split at hm
            · rename_i hc
              cases hm
              have q3 := c1.cell j a _ q2 e2
              obtain ⟨x, e⟩ := e1.ext
              rw [e] at q3
              exact k _ F1 H1 e1.cut cc ⟨a, rfl, e1.fra a (List.mem_of_getElem? q2) na, c1.out a (List.mem_of_getElem? q2), na, q3.cut (by rw [ln]; exact hc)⟩
            · cases hm
          · cases hm
      · cases hm
      · cases hm
        exact k _ F1 H1 e1.cut cc q1
      · cases hm
        obtain ⟨a, us, q2, q3, q4, q5, q6, q7⟩ := q1
        refine k _ F1 H1 e1.cut cc ⟨a, us, q2, q3, q4, fun z => q5 ?_, q6, q7⟩
        obtain ⟨x, e⟩ := e1.ext
        rw [e]
        exact List.mem_append_left _ z
      · rename_i c
        split at hm
        · rename_i hc
          cases hm
          obtain ⟨a, q2, q3, q4, q5, q6⟩ := q1
          obtain ⟨x, e⟩ := e1.ext
          rw [e] at q5 q6
          exact k _ F1 H1 e1.cut cc ⟨a, q2, q3, q4, fun z => q5 (List.mem_append_left _ z), q6.cut (by rw [ln]; exact hc)⟩
        · cases hm
    · rename_i δ1 μ1 h1
      unfold retR at hm
      split at hm
      · cases hm
      rename_i hlow
      cases hm
      exact ⟨F, α, _, μ, _, C, en, h1, fun F1 α1 σ1 H1 e1 c1 q1 => k _ F1 H1 e1.cut (c1.cut e1.ext C.len hlow) .non⟩
    · cases hm
  · cases hm
theorem def_ok {P : Program} {w : World} {mg : Str → Option Value} {base : Heap} {x qual : Str} {st : Stmt} {f : Addr} {fd : FuncData} {N ps : List Str} {k n : Nat} {body : MS} (F : Fun K x qual st f fd) (S : FnScope N ps (defScope st)) (hn : ps.length = n)
    (hb : ∀ (cdv : Value) (A : Around) (outer : List Env) (s : Shared) (H : Hp) (E : XK), Room k (A.deeper (envOfC qual (defScope st) s.heap.objs.size f cdv)) →
      SSs (cxOf CX0 P w K mg base N qual (defScope st) f cdv A outer s H E).nox cl (defBody st) body) : FnOk P w K mg base CX0 (k + 1) f fd ps (spM K cl n (mDef n N.length body)) := by
  refine F.ok S (fun vs H Q E h => ?_) (fun cdv A outer s H vs Q E hr h => ⟨_, hb cdv A outer s H E hr, def_core h⟩)
  · obtain ⟨_, _, _, _, _, _, h, _⟩ := h
    rw [h, hn]
/-- a def of the text, by its name -/
structure FS (P : Program) (w : World) (K : PySem.W.Frag) (mg : Str → Option Value) (base : Heap) (cl : Nat → Addr) (k : Nat) (x : Str) (n : Nat) (m : MF) : Prop where
  ok : ∃ (f : Addr) (fd : FuncData) (ps : List Str), FnOk P w K mg base CX0 k f fd ps (spM K cl n m) ∧ mg x = some (.ref f) ∧ PySem.W.keepIn K (.ref f) = true ∧ Binds K fd ps [] ∧ ps.length = n
  ar : ∀ rs μ z, m rs μ = some z → rs.length = n
theorem mDef_ar {n N : Nat} {body : MS} : ∀ rs μ z, mDef n N body rs μ = some z → rs.length = n := fun rs μ z h => by
  unfold mDef at h
  split at h
  · rename_i h1
    exact h1
  · cases h
@[simp] def mCall (f : MF) (ms : MA) : ME := fun δ μ => match ms δ μ with
  | none => none
  | some (rs, μ1) => f rs μ1
theorem call_imp {n : Nat} {mf : MF} {ms : MA} (ar : ∀ rs μ z, mf rs μ = some z → rs.length = n) : ∀ σ H Q, tm K cl (mCall mf ms) σ H Q → tCall (spM K cl n mf) [] E0 (tma K cl ms) σ H Q := fun σ H Q ⟨F, α, δ, μ, z, μ', C, Ee, hm, k⟩ => by
  unfold mCall at hm
  split at hm
  · cases hm
  rename_i rs μ1 h1
  refine ⟨F, α, δ, μ, rs, μ1, C, Ee, h1, fun vs F1 H1 e1 c1 q1 => ?_⟩
  refine ⟨F1, α, μ1, rs, z, μ', by rw [List.append_nil, q1.length, ar _ _ _ hm], c1, by rw [List.append_nil]; exact q1, hm, fun v F2 H2 e2 c2 r2 => k v F2 H2 (e1.trans e2) c2 (r2.back e1.dom)⟩
variable {X : Cx} {e : Expr} {es : List Expr} {pos p : Pos} {k j n : Nat} {x : Str} {mf : MF} {ms : MA}
theorem se_call (S : FS X.prog X.w X.K X.mg X.base cl k x n mf) (hr : Room j X.A) (hk : k ≤ j) (ha : SA X cl (e :: es) ms) (hg : Gl X x := by rfl) (hdb : (x == ("__debug__" : Str)) = false := by decide) (he : starEach (e :: es) X.env = (false, eval e X.env) :: starEach es X.env := by rfl) (hpl : (backTo pos (starEach es X.env)).any (·.1) = false := by rfl) :
    SE X cl (.Call (.Name x p) (e :: es) [] pos) (mCall mf ms) := by
  obtain ⟨f, fd, ps, F, hm, hkp, hb, _⟩ := S.ok
  exact PE.weak (pe_call F (hr.mono hk) hg hm hkp hb .nil pass0 ha hdb he hpl) (call_imp S.ar)
theorem se_call0 (S : FS X.prog X.w X.K X.mg X.base cl k x n mf) (hr : Room j X.A) (hk : k ≤ j) (hg : Gl X x := by rfl) (hdb : (x == ("__debug__" : Str)) = false := by decide) : SE X cl (.Call (.Name x p) [] [] pos) (mCall mf mNil) := by
  obtain ⟨f, fd, ps, F, hm, hkp, hb, _⟩ := S.ok
  refine PE.weak (pe_call0 F (hr.mono hk) hg hm hkp hb .nil pass0 hdb) fun σ H Q h => ?_
  obtain ⟨F, α, δ, μ, z, μ', C, Ee, hm, k⟩ := h
  have hm' : mf [] μ = some (z, μ') := hm
  exact ⟨F, α, μ, [], z, μ', S.ar _ _ _ hm', C, .nil, hm', k⟩
end
end DL
set_option Elab.async false
set_option linter.all false
set_option maxRecDepth 100000
set_option maxHeartbeats 1000000
namespace DL
open PySem PySem.Spec PyProof.Rows L2
section
variable {X : Cx} {cl : Nat → Addr} {e a b c : Expr} {es : List Expr} {m ma mb mc : ME} {pos p : Pos} {K : PySem.W.Frag} {mt : MT} {m1 m2 : MS} {st : Stmt} {sts : List Stmt}
theorem EndOk.pre {F H F1 H1 : Hp} {α α1 : List Addr} {E : Ends} {fl : Flo} (k : EndOk K cl F α H E fl) (e : Evo F α H F1 α1 H1) : EndOk K cl F1 α1 H1 E fl := by
  cases fl with
  | nx δ μ => exact fun F' α' σ' H' e1 c1 q1 => k F' α' σ' H' (e.trans e1) c1 q1
  | bk δ μ => exact fun F' α' σ' H' e1 c1 q1 => k F' α' σ' H' (e.trans e1) c1 q1
  | ct δ μ => exact fun F' α' σ' H' e1 c1 q1 => k F' α' σ' H' (e.trans e1) c1 q1
  | rt r μ => exact fun v F' α' H' e1 c1 q1 => k v F' α' H' (e.trans e1) c1 (q1.back e.dom)

@[simp] def mNx : MS := fun δ μ => some (.nx δ μ)
@[simp] def mSeq (m1 m2 : MS) : MS := fun δ μ => match m1 δ μ with
  | some (.nx δ' μ') => m2 δ' μ'
  | r => r
theorem sss_nil : SSs X cl [] mNx := by
  refine PSs.weak pss_nil fun E σ H ⟨F, α, δ, μ, fl, C, Ee, hm, k⟩ => ?_
  cases hm
  exact k F α σ H Evo.refl C Ee
theorem sss_one (h : SS X cl st m1) : SSs X cl [st] m1 := pss_one h
theorem sss_cons (h1 : SS X cl st m1) (h2 : SSs X cl sts m2) : SSs X cl (st :: sts) (mSeq m1 m2) := by
  refine PSs.weak (pss_cons h1 h2) fun E σ H ⟨F, α, δ, μ, fl, C, Ee, hm, k⟩ => ?_
  unfold mSeq at hm
  split at hm
  · rename_i δ1 μ1 h1
    exact ⟨F, α, δ, μ, _, C, Ee, h1, fun F1 α1 σ1 H1 e1 c1 q1 => ⟨F1, α1, δ1, μ1, fl, c1, q1, hm, k.pre e1⟩⟩
  · rename_i h1
    refine ⟨F, α, δ, μ, fl, C, Ee, hm, ?_⟩
    cases fl with
    | nx δ' μ' => exact absurd hm (h1 δ' μ')
    | bk δ' μ' => exact k
    | ct δ' μ' => exact k
    | rt r μ' => exact k
@[simp] def mBk : MS := fun δ μ => some (.bk δ μ)
@[simp] def mCt : MS := fun δ μ => some (.ct δ μ)
@[simp] def mNever : MS := fun _ _ => none
theorem ss_never : SS X cl st mNever := by
  refine PS.weak ps_never fun E σ H ⟨F, α, δ, μ, fl, C, Ee, hm, k⟩ => ?_
  cases hm
@[simp] def mRet (m : ME) : MS := fun δ μ => match m δ μ with
  | some (r, μ1) => some (.rt r μ1)
  | none => none
theorem ss_ret (h : SE X cl e m) : SS X cl (.Return (some e) pos) (mRet m) := by
  refine PS.weak (ps_ret h) fun E σ H ⟨F, α, δ, μ, fl, C, Ee, hm, k⟩ => ?_
  unfold mRet at hm
  split at hm
  · rename_i r μ1 h1
    cases hm
    exact ⟨F, α, δ, μ, r, μ1, C, Ee, h1, fun v F1 H1 e1 c1 q1 => k v F1 α H1 e1 c1 q1⟩
  · cases hm
@[simp] def mDrop (m : ME) : MS := fun δ μ => match m δ μ with
  | some (_, μ1) => some (.nx δ μ1)
  | none => none
@[simp] def mIfS (mt : MT) (m1 m2 : MS) : MS := fun δ μ => match mt δ μ with
  | some (true, μ1) => m1 δ μ1
  | some (false, μ1) => m2 δ μ1
  | none => none
theorem ss_if {xs ys : List Stmt} (hc : ST X cl c mt) (ha : SSs X cl xs m1) (hb : SSs X cl ys m2) : SS X cl (.If c xs ys pos) (mIfS mt m1 m2) := by
  refine PS.weak (ps_if hc ha hb) fun E σ H ⟨F, α, δ, μ, fl, C, Ee, hm, k⟩ => ?_
  unfold mIfS at hm
  split at hm
  · rename_i μ1 h1
    exact ⟨F, α, δ, μ, _, μ1, C, Ee, h1, fun F1 H1 e1 c1 => iteT ⟨F1, α, δ, μ1, fl, c1, Ee.step e1, hm, k.pre e1⟩⟩
  · rename_i μ1 h1
    exact ⟨F, α, δ, μ, _, μ1, C, Ee, h1, fun F1 H1 e1 c1 => iteF ⟨F1, α, δ, μ1, fl, c1, Ee.step e1, hm, k.pre e1⟩⟩
  · cases hm

/-- what is stored: plain data, or a cell's name -/
@[simp] def putR (i : Nat) (r : R) (δ : Sl) : Option Sl := match r with
  | .dat d => some (δ.set i (.dat d))
  | .fr xs => some (δ.set i (.dat (.lst xs)))
  | .cel k => some (δ.set i (.cel k))
  | .no => none
  | .fc _ => none
@[simp] def mSet (i : Nat) (m : ME) : MS := fun δ μ => match m δ μ with
  | some (r, μ1) => match putR i r δ with
    | some δ1 => some (.nx δ1 μ1)
    | none => none
  | none => none
theorem put_ok {F H H0 : Hp} {α : List Addr} {σ : L2.St} {δ δ1 : Sl} {v : V} {r : R} {i : Nat} (en : EnvOk K cl F α σ δ) (h : RepR K cl H0 F α H v (froz r)) (q : putR i r δ = some δ1) : EnvOk K cl F α (σ.set i (some v)) δ1 := by
  cases r with
  | no => cases q
  | fc c => cases q
  | dat d =>
    cases q
    exact en.put i h
  | fr xs =>
    cases q
    exact en.put i h
  | cel k =>
    cases q
    obtain ⟨a, h1, rfl⟩ := h
    exact en.putC i h1
theorem set_imp {i : Nat} : ∀ E σ H, tms K cl (mSet i m) E σ H → tAsg (tm K cl m) (gName i) E σ H := fun E σ H ⟨F, α, δ, μ, fl, C, Ee, hm, k⟩ => by
  unfold mSet at hm
  split at hm
  · rename_i r μ1 h1
    split at hm
    · rename_i δ1 h2
      cases hm
      refine ⟨F, α, δ, μ, r, μ1, C, Ee, h1, fun v F1 H1 e1 c1 q1 => ?_⟩
      obtain ⟨F2, e2, c2, r2⟩ := freeze e1 c1 q1
      exact k F2 α _ H1 e2 c2 (put_ok (Ee.step e2) r2 h2)
    · cases hm
  · cases hm
theorem ss_set {i : Nat} {x : Str} {pos' : Pos} (hN : X.N.Nodup) (he : SE X cl e m) (hi : X.N[i]? = some x := by rfl) (hx : Loc X.env.scope x := by first | exact .inl rfl | exact .inr rfl) (hs : swapsWith e (some (.Name x pos')) pos.line X.env = pure false := by rfl) (hf : X.fn x = true ∨ X.env.scope.names.lookup x = some .local := by first | exact .inl rfl | exact .inr rfl) :
    SS X cl (.Assign [.Name x pos'] e pos) (mSet i m) := PS.weak (ps_set hN hi hx he hs hf) set_imp
/-- a name that holds a list of its own -/
@[simp] def mSetC (i : Nat) (m : ME) : MS := fun δ μ => match m δ μ with
  | some (.fr xs, μ1) => some (.nx (δ.set i (.cel μ1.length)) (μ1 ++ [.l xs]))
  | some (.fc c, μ1) => some (.nx (δ.set i (.cel μ1.length)) (μ1 ++ [c]))
  | _ => none
@[simp] def R.isFr : R → Bool
  | .fr _ => true
  | .fc _ => true
  | _ => false
theorem RepR.frc {F H0 H : Hp} {α : List Addr} {v : V} {xs : List D} (h : RepR K cl H0 F α H v (.fr xs)) : RepR K cl H0 F α H v (.fc (.l xs)) := by
  obtain ⟨a, vs, h1, h2, h3, h4, h5, h6⟩ := h
  exact ⟨a, h1, h2, h3, h4, vs, h5, h6⟩
theorem RepR.frH {F H0 H : Hp} {α : List Addr} {v : V} {r : R} (h : RepR K cl H0 F α H v r) (q : r.isFr = true) : ∃ a, v = .ref a ∧ H0 a = none ∧ ∃ u, H a = some u := by
  cases r with
  | fr xs =>
    obtain ⟨a, vs, h1, h2, h3, h4, h5, h6⟩ := h
    exact ⟨a, h1, h2, _, h5⟩
  | fc c =>
    obtain ⟨a, h1, h2, h3, h4, h5⟩ := h
    exact ⟨a, h1, h2, h5.some⟩
  | _ => cases q
theorem fr_ne {F F2 H0 H1 H2 : Hp} {α α2 : List Addr} {v w : V} {r1 r2 : R} {a : Addr} (q1 : RepR K cl H0 F α H1 v r1) (q2 : RepR K cl H1 F2 α2 H2 w r2) (f2 : r2.isFr = true) (hw : w = .ref a) : ¬ (V.ref a = v ∧ r1.isFr = true) := fun ⟨z, f1⟩ => by
  obtain ⟨b, h1, _, u, h2⟩ := q1.frH f1
  obtain ⟨c, g1, g2, _⟩ := q2.frH f2
  rw [hw] at g1
  cases g1
  rw [h1] at z
  cases z
  rw [h2] at g2
  cases g2
theorem mkCell {F0 F H0 H : Hp} {α : List Addr} {μ : Mu} {v : V} {c : Cel} (e : Evo F0 α H0 F α H) (C : Conc K cl F α μ H) (h : RepR K cl H0 F α H v (.fc c)) :
    ∃ a, v = .ref a ∧ Evo F0 α H0 F (α ++ [a]) H ∧ Conc K cl F (α ++ [a]) (μ ++ [c]) H ∧ (α ++ [a])[μ.length]? = some a := by
  obtain ⟨a, h1, h2, h3, h4, h5⟩ := h
  refine ⟨a, h1, ⟨e.ff, ⟨[a], rfl⟩, e.hh, e.dom, e.fre, fun b hb q => ?_, e.frz⟩, ⟨C.sub, by simp [C.len], ?_, fun k b ys q1 q2 => ?_, fun b hb => ?_⟩, ?_⟩
  · rcases List.mem_append.mp hb with z | z
    · exact absurd z q
    · rw [List.mem_singleton.mp z]
      exact h2
  · rw [List.nodup_append]
    exact ⟨C.nd, by simp, fun x hx y hy z => h4 (by rw [List.mem_singleton.mp hy] at z; rw [← z]; exact hx)⟩
  · by_cases hk : k < α.length
    · rw [List.getElem?_append_left hk] at q1
      rw [List.getElem?_append_left (by rw [← C.len]; exact hk)] at q2
      exact (C.cell k b ys q1 q2).mono (Same.refl F) ⟨[a], rfl⟩
    · have e1 : k = α.length := by
        have := (List.getElem?_eq_some_iff.mp q1).1
        rw [List.length_append] at this
        simp at this
        omega
      subst e1
      rw [List.getElem?_append_right (Nat.le_refl _), Nat.sub_self] at q1
      rw [C.len, List.getElem?_append_right (Nat.le_refl _), Nat.sub_self] at q2
      simp at q1 q2
      subst q1 q2
      exact h5.mono (Same.refl F) ⟨[a], rfl⟩
  · rcases List.mem_append.mp hb with z | z
    · exact C.out b z
    · rw [List.mem_singleton.mp z]
      exact h3
  · rw [← C.len, List.getElem?_append_right (Nat.le_refl _), Nat.sub_self]
    rfl
theorem EnvOk.cellUp {F : Hp} {α : List Addr} {σ : L2.St} {δ : Sl} {a : Addr} (h : EnvOk K cl F α σ δ) : EnvOk K cl F (α ++ [a]) σ δ := by
  refine ⟨h.1, h.2.1, fun i k q => ?_⟩
  obtain ⟨b, h1, h2⟩ := h.2.2 i k q
  exact ⟨b, by rw [List.getElem?_append_left (List.getElem?_eq_some_iff.mp h1).1]; exact h1, h2⟩
theorem setC_imp {i : Nat} : ∀ E σ H, tms K cl (mSetC i m) E σ H → tAsg (tm K cl m) (gName i) E σ H := fun E σ H ⟨F, α, δ, μ, fl, C, Ee, hm, k⟩ => by
  unfold mSetC at hm
  split at hm
  · rename_i xs μ1 h1
    cases hm
    refine ⟨F, α, δ, μ, _, μ1, C, Ee, h1, fun v F1 H1 e1 c1 q1 => ?_⟩
    obtain ⟨a, rfl, e2, c2, l2⟩ := mkCell e1 c1 q1.frc
    exact k F1 _ _ H1 e2 c2 (((Ee.step e1).cellUp).putC i l2)
  · rename_i c μ1 h1
    cases hm
    refine ⟨F, α, δ, μ, _, μ1, C, Ee, h1, fun v F1 H1 e1 c1 q1 => ?_⟩
    obtain ⟨a, rfl, e2, c2, l2⟩ := mkCell e1 c1 q1
    exact k F1 _ _ H1 e2 c2 (((Ee.step e1).cellUp).putC i l2)
  · cases hm
theorem ss_setC {i : Nat} {x : Str} {pos' : Pos} (hN : X.N.Nodup) (he : SE X cl e m) (hi : X.N[i]? = some x := by rfl) (hx : Loc X.env.scope x := by first | exact .inl rfl | exact .inr rfl) (hs : swapsWith e (some (.Name x pos')) pos.line X.env = pure false := by rfl) (hf : X.fn x = true ∨ X.env.scope.names.lookup x = some .local := by first | exact .inl rfl | exact .inr rfl) :
    SS X cl (.Assign [.Name x pos'] e pos) (mSetC i m) := PS.weak (ps_set hN hi hx he hs hf) setC_imp

/-- store: by a flag as plain data or as a cell of its own -/
@[simp] def stR (cellq : Bool) (i : Nat) (r : R) (δ : Sl) (μ : Mu) : Option (Sl × Mu) := match cellq, r with
  | true, .fr xs => some (δ.set i (.cel μ.length), μ ++ [.l xs])
  | true, .fc c => some (δ.set i (.cel μ.length), μ ++ [c])
  | true, _ => none
  | false, r => match putR i r δ with
    | some δ1 => some (δ1, μ)
    | none => none
@[simp] def mPar (ci cj : Bool) (i j : Nat) (ma mb : ME) : MS := fun δ μ => match ma δ μ with
  | none => none
  | some (x, μ1) => match mb δ μ1 with
    | none => none
    | some (y, μ2) => match stR ci i x δ μ2 with
      | none => none
      | some (δ1, μ3) => match stR cj j y δ1 μ3 with
        | none => none
        | some (δ2, μ4) => some (.nx δ2 μ4)
theorem st_ok {F0 F H0 H : Hp} {α0 α : List Addr} {μ μ1 : Mu} {σ : L2.St} {δ δ1 : Sl} {v : V} {r : R} {i : Nat} {q : Bool} (e : Evo F0 α0 H0 F α H) (C : Conc K cl F α μ H) (en : EnvOk K cl F α σ δ) (h : RepR K cl H0 F α H v r) (hq : stR q i r δ μ = some (δ1, μ1)) :
    ∃ F1 α1, Evo F0 α0 H0 F1 α1 H ∧ Same F F1 ∧ (∃ x, α1 = α ++ x) ∧ (∀ b, b ∈ α1 → b ∉ α → .ref b = v ∧ r.isFr = true) ∧ (∀ b o, F b = none → F1 b = some o → .ref b = v ∧ r.isFr = true) ∧ Conc K cl F1 α1 μ1 H ∧ EnvOk K cl F1 α1 (σ.set i (some v)) δ1 := by
  cases q with
  | true =>
    have main : ∀ c : Cel, RepR K cl H0 F α H v (.fc c) → r.isFr = true → some (δ.set i (.cel μ.length), μ ++ [c]) = some (δ1, μ1) → ∃ F1 α1, Evo F0 α0 H0 F1 α1 H ∧ Same F F1 ∧ (∃ x, α1 = α ++ x) ∧ (∀ b, b ∈ α1 → b ∉ α → .ref b = v ∧ r.isFr = true) ∧ (∀ b o, F b = none → F1 b = some o → .ref b = v ∧ r.isFr = true) ∧ Conc K cl F1 α1 μ1 H ∧ EnvOk K cl F1 α1 (σ.set i (some v)) δ1 := by
      intro c h hfr hq
      cases hq
      obtain ⟨a, h1, h2, h3, h4, h5⟩ := id h
      have e' : Evo F α H0 F α H := ⟨Same.refl F, ⟨[], by simp⟩, fun b o hb hb' => by
        by_cases z : b ∈ α0
        · obtain ⟨x, ex⟩ := e.ext
          exact absurd (by rw [ex]; exact List.mem_append_left _ z) hb'
        · exact e.hh b o hb z, e.dom, fun b o hb hq => (by rw [hb] at hq; cases hq), fun b hb hq => absurd hb hq, e.frz⟩
      obtain ⟨a', rfl, e2, c2, l2⟩ := mkCell e' C h
      refine ⟨F, α ++ [a'], ⟨e.ff, ?_, e.hh, e.dom, e.fre, fun b hb hq => ?_, e.frz⟩, Same.refl F, ⟨[a'], rfl⟩, fun b hb hq => ?_, fun b o hb hq => (by rw [hb] at hq; cases hq), c2, (en.cellUp).putC i l2⟩
      · obtain ⟨x, ex⟩ := e.ext
        exact ⟨x ++ [a'], by rw [ex, List.append_assoc]⟩
      · by_cases z : b ∈ α
        · exact e.fra b z hq
        · exact e2.fra b hb z
      · rcases List.mem_append.mp hb with z | z
        · exact absurd z hq
        · rw [List.mem_singleton.mp z]
          exact ⟨rfl, hfr⟩
    cases r with
    | fr xs => exact main (.l xs) h.frc rfl hq
    | fc c => exact main c h rfl hq
    | no => cases hq
    | dat d => cases hq
    | cel k => cases hq
  | false =>
    unfold stR at hq
    simp only at hq
    split at hq
    · rename_i δ' h2
      cases hq
      cases r with
      | no => cases h2
      | fc c => cases h2
      | dat d => exact ⟨F, α, e, Same.refl F, ⟨[], by simp⟩, fun b hb hq => absurd hb hq, fun b o hb hq => (by rw [hb] at hq; cases hq), C, put_ok (r := .dat d) en h h2⟩
      | cel k => exact ⟨F, α, e, Same.refl F, ⟨[], by simp⟩, fun b hb hq => absurd hb hq, fun b o hb hq => (by rw [hb] at hq; cases hq), C, put_ok (r := .cel k) en h h2⟩
      | fr xs =>
        obtain ⟨a, vs, h1, g2, h3, h4, h5, h6⟩ := id h
        have sm : Same F (upd F a (.lst vs)) := same_upd h3
        refine ⟨upd F a (.lst vs), α, ⟨e.ff.trans sm, e.ext, e.hh, e.dom, fun b o hb hq => ?_, e.fra, e.frz⟩, sm, ⟨[], by simp⟩, fun b hb hq => absurd hb hq, fun b o hb hq => ?_, ⟨fun b o hb => ?_, C.len, C.nd, fun k b ys q1 q2 => ?_, fun b hb => ?_⟩, ?_⟩
        · by_cases z : b = a
          · rw [z]
            exact g2
          · exact e.fre b o hb (upd_some_ne hq z)
        · by_cases z : b = a
          · rw [z]
            exact ⟨h1.symm, rfl⟩
          · have := upd_some_ne hq z
            rw [hb] at this
            cases this
        · by_cases z : b = a
          · subst z
            rw [upd_same] at hb
            cases hb
            exact h5
          · exact C.sub b o (upd_some_ne hb z)
        · exact (C.cell k b ys q1 q2).monoF sm
        · rw [upd_ne (show b ≠ a from fun z => h4 (by rw [← z]; exact hb))]
          exact C.out b hb
        · refine put_ok (H := H) (H0 := H0) (r := .fr xs) ⟨en.1, fun i d q => ?_, en.2.2⟩ ?_ h2
          · obtain ⟨w, g1, g2⟩ := en.2.1 i d q
            exact ⟨w, g1, g2.mono sm⟩
          · show Rep K cl _ v _
            rw [h1]
            exact .lst upd_same (h6.mono sm)
    · cases hq
/-- what stays of a second value behind the first store -/
theorem RepR.other {F F1 H H0 : Hp} {α α1 : List Addr} {w : V} {r : R} {P : Addr → Prop} (h : RepR K cl H0 F α H w r) (sm : Same F F1) (ex : ∃ x, α1 = α ++ x) (n1 : ∀ b, b ∈ α1 → b ∉ α → P b) (n2 : ∀ b o, F b = none → F1 b = some o → P b) (ne : ∀ a, r.isFr = true → w = .ref a → ¬ P a) : RepR K cl H0 F1 α1 H w r := by
  cases r with
  | no => exact h
  | dat d => exact Rep.mono sm h
  | cel k =>
    obtain ⟨a, h1, h2⟩ := h
    obtain ⟨x, rfl⟩ := ex
    exact ⟨a, by rw [List.getElem?_append_left (List.getElem?_eq_some_iff.mp h1).1]; exact h1, h2⟩
  | fr xs =>
    obtain ⟨a, vs, h1, h2, h3, h4, h5, h6⟩ := h
    refine ⟨a, vs, h1, h2, ?_, fun z => ?_, h5, h6.mono sm⟩
    · cases q : F1 a with
      | none => rfl
      | some o => exact absurd (n2 a o h3 q) (ne a rfl h1)
    · exact absurd (n1 a z h4) (ne a rfl h1)
  | fc c =>
    obtain ⟨a, h1, h2, h3, h4, h5⟩ := h
    refine ⟨a, h1, h2, ?_, fun z => ?_, h5.mono sm ex⟩
    · cases q : F1 a with
      | none => rfl
      | some o => exact absurd (n2 a o h3 q) (ne a rfl h1)
    · exact absurd (n1 a z h4) (ne a rfl h1)
/-- two results in a row, as they come -/
theorem ss_par {ci cj : Bool} {i j : Nat} {x y : Str} {px py pt : Pos} {kt k2 : Nat} {pt2 : Pos} (hN : X.N.Nodup) (ha : SE X cl a ma) (hb : SE X cl b mb) (hij : i ≠ j := by decide) (hc : X.calm = true := by rfl) (hi : X.N[i]? = some x := by rfl) (hj : X.N[j]? = some y := by rfl)
    (hx : X.env.scope.names.lookup x = some .local := by rfl) (hy : X.env.scope.names.lookup y = some .local := by rfl)
    (hw : swappedStores [.Tuple [.Name x px, .Name y py] kt pt] (.Tuple [a, b] k2 pt2) X.env = pure (some [x, y]) := by rfl)
    (hs : swapsWithSole [.Tuple [.Name x px, .Name y py] kt pt] (.Tuple [a, b] k2 pt2) pos.line X.env = pure false := by rfl)
    (ha1 : starEach (a :: [b]) X.env = (false, eval a X.env) :: starEach [b] X.env := by rfl) (hb1 : starEach (b :: []) X.env = (false, eval b X.env) :: starEach [] X.env := by rfl) :
    SS X cl (.Assign [.Tuple [.Name x px, .Name y py] kt pt] (.Tuple [a, b] k2 pt2) pos) (mPar ci cj i j ma mb) := by
  refine PS.weak (ps_par hc hN hi hj hij hx hy (pa_cons ha (pa_cons hb pa_nil hb1) ha1) hw hs) fun E σ H ⟨F, α, δ, μ, fl, C, Ee, hm, k⟩ => ?_
  unfold mPar at hm
  split at hm
  · cases hm
  rename_i r1 μ1 h1
  split at hm
  · cases hm
  rename_i r2 μ2 h2
  split at hm
  · cases hm
  rename_i δ1 μ3 h3
  split at hm
  · cases hm
  rename_i δ2 μ4 h4
  cases hm
  refine ⟨F, α, δ, μ, r1, μ1, C, Ee, h1, fun v F1 H1 e1 c1 q1 => ⟨F1, α, δ, μ1, r2, μ2, c1, Ee.step e1, h2, fun w F2 H2 e2 c2 q2 => ⟨v, w, rfl, ?_⟩⟩⟩
  obtain ⟨F3, α3, e3, sm, ex, n1, n2, c3, en3⟩ := st_ok (e1.trans e2) c2 ((Ee.step e1).step e2) (q1.step e2) h3
  have q2' := (q2.back e1.dom).other sm ex n1 n2 fun a hr hw => fr_ne q1 q2 hr hw
  obtain ⟨F4, α4, e4, _, _, _, _, c4, en4⟩ := st_ok e3 c3 en3 q2' h4
  exact k F4 α4 _ H2 e4 c4 en4
end
end DL
set_option Elab.async false
set_option linter.all false
set_option maxRecDepth 100000
set_option maxHeartbeats 1000000
namespace DL
open PySem PySem.Spec PyProof.Rows L2
section
variable {X : Cx} {cl : Nat → Addr} {e a b c : Expr} {es : List Expr} {m ma mb mc : ME} {pos p : Pos} {K : PySem.W.Frag} {mt : MT} {m1 m2 : MS} {st : Stmt} {sts : List Stmt}

theorem nd_ix {N : List Addr} (hN : N.Nodup) {i j : Nat} {x : Addr} (a : N[i]? = some x) (b : N[j]? = some x) : i = j := by
  obtain ⟨h1, e1⟩ := List.getElem?_eq_some_iff.mp a
  obtain ⟨h2, e2⟩ := List.getElem?_eq_some_iff.mp b
  exact (List.getElem_inj hN).mp (e1.trans e2.symm)
theorem Conc.putC0 {F H : Hp} {α : List Addr} {μ : Mu} {k : Nat} {ad : Addr} {ob : HO} {c : Cel} (C : Conc K cl F α μ H) (hk : α[k]? = some ad) (hn : ∀ x u, H ad ≠ some (.frz x u)) (q : CellOk K cl F α ad (some ob) c) : Evo F α H F α (upd H ad ob) ∧ Conc K cl F α (μ.set k c) (upd H ad ob) := by
  have hin : ad ∈ α := List.mem_of_getElem? hk
  have hsome : ∃ o, H ad = some o := by
    have hl : k < μ.length := by rw [← C.len]; exact (List.getElem?_eq_some_iff.mp hk).1
    exact (C.cell k ad μ[k] hk (List.getElem?_eq_getElem hl)).some
  obtain ⟨o, ho⟩ := hsome
  refine ⟨⟨Same.refl F, ⟨[], by simp⟩, fun b u h n => ?_, fun b h => ?_, fun b u h z => (by rw [h] at z; cases z), fun b h z => absurd h z, fun b x u h => by rw [upd_ne (fun z => hn x u (by rw [← z]; exact h))]; exact h⟩, ⟨fun b u h => ?_, by simp [C.len], C.nd, fun j b ys h1 h2 => ?_, C.out⟩⟩
  · rw [upd_ne (fun z => n (by rw [z]; exact hin))]
    exact h
  · by_cases z : b = ad
    · rw [z, upd_same] at h
      cases h
    · rw [upd_ne z] at h
      exact h
  · have : b ≠ ad := fun z => by
      have := C.out ad hin
      rw [← z, h] at this
      cases this
    rw [upd_ne this]
    exact C.sub b u h
  · by_cases hj : k = j
    · subst hj
      rw [hk] at h1
      cases h1
      rw [List.getElem?_set_self (by rw [← C.len]; exact (List.getElem?_eq_some_iff.mp hk).1)] at h2
      cases h2
      rw [upd_same]
      exact q
    · rw [List.getElem?_set_ne hj] at h2
      rw [upd_ne (fun z => hj ?_)]
      · exact C.cell j b ys h1 h2
      · rw [z] at h1
        obtain ⟨l1, e1⟩ := List.getElem?_eq_some_iff.mp hk
        obtain ⟨l2, e2⟩ := List.getElem?_eq_some_iff.mp h1
        exact nd_ix C.nd hk h1
theorem Conc.putC {F H : Hp} {α : List Addr} {μ : Mu} {k : Nat} {ad : Addr} {ob : HO} {c : Cel} {ws : List V} (C : Conc K cl F α μ H) (hk : α[k]? = some ad) (hl : H ad = some (.lst ws)) (q : CellOk K cl F α ad (some ob) c) : Evo F α H F α (upd H ad ob) ∧ Conc K cl F α (μ.set k c) (upd H ad ob) :=
  C.putC0 hk (fun x u z => by rw [hl] at z; cases z) q
theorem Conc.put {F H : Hp} {α : List Addr} {μ : Mu} {k : Nat} {ad : Addr} {vs : List V} {xs : List D} (C : Conc K cl F α μ H) {ws : List V} (hk : α[k]? = some ad) (hl : H ad = some (.lst ws)) (q : Reps K cl F vs xs) : Evo F α H F α (upd H ad (.lst vs)) ∧ Conc K cl F α (μ.set k (.l xs)) (upd H ad (.lst vs)) := C.putC hk hl ⟨vs, rfl, q⟩

@[simp] def mPut (mo mi m : ME) : MS := fun δ μ => match m δ μ with
  | none => none
  | some (r, μ1) => match toD r with
    | none => none
    | some d => match mo δ μ1 with
      | some (.cel k, μ2) => match mi δ μ2 with
        | some (.dat (.int i), μ3) => match μ3[k]? with
          | some (.l xs) => match ixN xs.length i with
            | none => none
            | some j => some (.nx δ (μ3.set k (.l (xs.set j d))))
          | _ => none
        | _ => none
      | _ => none
theorem ss_put {o i : Expr} {mo mi : ME} {p2 : Pos} (ho : SE X cl o mo) (hi : SE X cl i mi) (he : SE X cl e m) (hs : swapsWithSole [.Subscript o i p2] e pos.line X.env = pure false := by rfl) (hw : swappedStores [.Subscript o i p2] e X.env = pure none := by rfl)
    (h1 : (assignEach [.Subscript o i p2] X.env).map (·.2) = [assign (.Subscript o i p2) X.env] := by rfl)
    (has : ∀ v, assign (.Subscript o i p2) X.env v = (do
      let ov ← holding [v] (eval o X.env)
      let iv ← holding [v, ov] (eval i X.env)
      standAt p2
      holding [v, ov, iv] (setItem ov iv v)
      release [v, ov, iv] []) := by intro _; rfl) : SS X cl (.Assign [.Subscript o i p2] e pos) (mPut mo mi m) := by
  refine PS.weak (ps_asg he (pg_sub ho hi set_list has) hs hw h1) fun E σ H ⟨F, α, δ, μ, fl, C, Ee, hm, k⟩ => ?_
  unfold mPut at hm
  split at hm
  · cases hm
  rename_i r μ1 h1
  split at hm
  · cases hm
  rename_i d h2
  split at hm
  · rename_i kk μ2 h3
    split at hm
    · rename_i ii μ3 h4
      split at hm
      rotate_left
      · cases hm
      rename_i xs h5
      split at hm
      · cases hm
      rename_i j h6
      cases hm
      refine ⟨F, α, δ, μ, r, μ1, C, Ee, h1, fun v F1 H1 e1 c1 q1 => ?_⟩
      obtain ⟨F2, e2, c2, q2⟩ := freeze e1 c1 q1
      rw [froz_dat h2] at q2
      refine ⟨F2, α, δ, μ1, _, μ2, c2, Ee.step e2, h3, fun w F3 H3 e3 c3 q3 => ⟨F3, α, δ, μ2, _, μ3, c3, (Ee.step e2).step e3, h4, fun u F4 H4 e4 c4 q4 => ?_⟩⟩
      obtain ⟨ad, q5, rfl⟩ := q3
      obtain ⟨vs, q6, q7⟩ := c4.cell kk ad _ q5 h5
      have q8 : Rep X.K cl F4 v d := Rep.mono (e3.trans e4).ff q2
      refine ⟨ad, vs, ii, j, rfl, rep_int q4, q6, by rw [q7.length]; exact h6, ?_⟩
      obtain ⟨e5, c5⟩ := c4.put q5 q6 (q7.set j q8)
      exact k F4 α σ _ (e2.trans (e3.trans (e4.trans e5))) c5 (((Ee.step e2).step e3).step e4)
    · cases hm
  · cases hm

@[simp] def mAug (i : Nat) (f : Int → Int → Int) (m : ME) : MS := fun δ μ => match δ[i]? with
  | some (.dat (.int x)) => match m δ μ with
    | some (.dat (.int y), μ1) => some (.nx (δ.set i (.dat (.int (f x y)))) μ1)
    | _ => none
  | _ => none
def BmSem (K : PySem.W.Frag) (cl : Nat → Addr) (r : V → List V → Hp → VK → Prop) (f : Nat → List R → Mu → Option (R × Mu)) : Prop := ∀ (F : Hp) (α : List Addr) (μ μ' : Mu) (H : Hp) (kk : Nat) (ad : Addr) (vs : List V) (rs : List R) (z : R) (Q : VK), Conc K cl F α μ H → α[kk]? = some ad → ArgRs K cl F α vs rs → f kk rs μ = some (z, μ') →
  (∀ v F' H', Evo F α H F' α H' → Conc K cl F' α μ' H' → RepR K cl H F' α H' v z → Q v H') → r (.ref ad) vs H Q
theorem ElRs.length {F : Hp} {α : List Addr} : ∀ {vs : List V} {es : List El}, ElRs K cl F α vs es → vs.length = es.length
  | _, _, .nil => rfl
  | _, _, .cons _ q => congrArg (· + 1) (ElRs.length q)
theorem ElRs.append {F : Hp} {α : List Addr} : ∀ {vs us : List V} {es fs : List El}, ElRs K cl F α vs es → ElRs K cl F α us fs → ElRs K cl F α (vs ++ us) (es ++ fs)
  | _, _, _, _, .nil, q => q
  | _, _, _, _, .cons r q, s => .cons r (ElRs.append q s)
/-- a list of whatever -/
@[simp] def nOf : Option Cel → Option (List El)
  | some (.l xs) => some (xs.map El.d)
  | some (.n es) => some es
  | _ => none
@[simp] def isLst : Option Cel → Bool
  | some (.l _) => true
  | some (.n _) => true
  | _ => false
@[simp] def mBm (f : Nat → List R → Mu → Option (R × Mu)) (mo : ME) (ms : MA) : ME := fun δ μ => match mo δ μ with
  | some (.cel k, μ1) => match isLst μ1[k]? with
    | true => match ms δ μ1 with
      | some (rs, μ2) => f k rs μ2
      | none => none
    | false => none
  | _ => none
@[simp] def fAppend (k : Nat) (rs : List R) (μ : Mu) : Option (R × Mu) := match rs with
  | [.dat d] => match μ[k]? with
    | some (.l xs) => if xs.length < 100000 then some (.dat .non, μ.set k (.l (xs ++ [d]))) else none
    | some (.n es) => if es.length < 100000 then some (.dat .non, μ.set k (.n (es ++ [.d d]))) else none
    | _ => none
  | [.cel j] => match nOf μ[k]? with
    | some es => if es.length < 100000 then some (.dat .non, μ.set k (.n (es ++ [.c j]))) else none
    | none => none
  | _ => none
@[simp] def fInsert (k : Nat) (rs : List R) (μ : Mu) : Option (R × Mu) := match rs with
  | [.dat (.int i), .dat d] => match μ[k]? with
    | some (.l xs) => if xs.length < 100000 ∧ 0 ≤ i ∧ i ≤ 100000 then some (.dat .non, μ.set k (.l (xs.take i.toNat ++ [d] ++ xs.drop i.toNat))) else none
    | _ => none
  | _ => none
def rInsert : V → List V → Hp → VK → Prop := fun x vs H Q => ∃ (l : Addr) (xs : List V) (i : Int) (y : V), x = .ref l ∧ vs = [.int i, y] ∧ H l = some (.lst xs) ∧ xs.length < sizeLine ∧ 0 ≤ i ∧ i < 2 ^ 63 ∧
    Q .non (upd H l (.lst (xs.take i.toNat ++ [y] ++ xs.drop i.toNat)))
theorem Reps.erase {F : Hp} : ∀ {vs : List V} {ds : List D} (n : Nat), Reps K cl F vs ds → Reps K cl F (vs.eraseIdx n) (ds.eraseIdx n)
  | _, _, _, .nil => .nil
  | _, _, 0, .cons _ q => q
  | _, _, n + 1, .cons r q => .cons r (Reps.erase n q)
@[simp] def fPopAt (k : Nat) (rs : List R) (μ : Mu) : Option (R × Mu) := match rs with
  | [.dat (.int i)] => match μ[k]? with
    | some (.l xs) => match ixN xs.length i with
      | some j => match xs[j]? with
        | some d => if xs.length ≤ 100000 then some (.dat d, μ.set k (.l (xs.eraseIdx j))) else none
        | none => none
      | none => none
    | _ => none
  | _ => none
variable {o : Expr} {mo : ME} {ms : MA} {apos cpos : Pos}
abbrev TGT := D → Sl → Option Sl
def TgSem (K : PySem.W.Frag) (cl : Nat → Addr) (g : TG) (t : TGT) (vs : List Nat) : Prop := ∀ (F : Hp) (α : List Addr) (σ : L2.St) (δ δ' : Sl) (H : Hp) (v : V) (d : D) (Q : L2.St → Hp → Prop), Same F H → EnvOk K cl F α σ δ → Rep K cl F v d → t d δ = some δ' →
  (∀ σ', EnvOk K cl F α σ' δ' → wipe σ' vs = wipe σ vs → Q σ' H) → g v σ H Q
abbrev SG (X : Cx) (cl : Nat → Addr) (tg : Expr) (g : TG) (t : TGT) (vs : List Nat) : Prop := PG X tg g ∧ TgSem X.K cl g t vs
theorem wipe_in {σ : L2.St} {i : Nat} (hi : i < σ.length) : ∀ {vs : List Nat}, i ∈ vs → (wipe σ vs)[i]? = some none
  | v :: vs, h => by
    unfold wipe
    by_cases e : v = i
    · subst e
      rw [List.getElem?_set_self (by rw [wipe_length]; exact hi)]
    · rw [List.getElem?_set_ne e]
      rcases List.mem_cons.mp h with z | z
      · exact absurd z.symm e
      · exact wipe_in hi z
theorem wipe_eq {σ σ' : L2.St} {vs : List Nat} (hl : σ'.length = σ.length) (h : ∀ i, i ∉ vs → σ'[i]? = σ[i]?) : wipe σ' vs = wipe σ vs := by
  apply List.ext_getElem?
  intro i
  by_cases hi : i ∈ vs
  · by_cases hl2 : i < σ.length
    · rw [wipe_in hl2 hi, wipe_in (by rw [hl]; exact hl2) hi]
    · rw [List.getElem?_eq_none (by rw [wipe_length, hl]; omega), List.getElem?_eq_none (by rw [wipe_length]; omega)]
  · rw [wipe_out hi, wipe_out hi]
    exact h i hi
@[simp] def tgName (i : Nat) : TGT := fun d δ => some (δ.set i (.dat d))
@[simp] def tgPair (i j : Nat) : TGT := fun d δ => match d with
  | .tup [x, y] => some ((δ.set i (.dat x)).set j (.dat y))
  | _ => none
theorem sem_name {i : Nat} {vs : List Nat} (h : i ∈ vs) : TgSem K cl (gName i) (tgName i) vs := by
  intro F α σ δ δ' H v d Q sm en hv ht k
  cases ht
  refine k _ (en.put i hv) (wipe_eq (by simp) fun j hj => List.getElem?_set_ne (show i ≠ j from fun z => hj (by rw [← z]; exact h)))
theorem sem_pair {i j : Nat} {vs : List Nat} (h : i ∈ vs) (h' : j ∈ vs) : TgSem K cl (gTup K 2 (gCons (gName i) (gCons (gName j) gNil))) (tgPair i j) vs := by
  intro F α σ δ δ' H v d Q sm en hv ht k
  unfold tgPair at ht
  split at ht
  · rename_i x y
    cases ht
    cases hv with
    | tup q1 q2 =>
      cases q2 with
      | cons r1 q3 =>
        cases q3 with
        | cons r2 q4 =>
          cases q4
          refine ⟨_, _, rfl, Same.sqT sm q1, rfl, _, _, rfl, _, _, rfl, rfl, k _ ((en.put i r1).put j r2) (wipe_eq (by simp) fun l hl => ?_)⟩
          rw [List.getElem?_set_ne (show j ≠ l from fun z => hl (by rw [← z]; exact h')), List.getElem?_set_ne (show i ≠ l from fun z => hl (by rw [← z]; exact h))]
  · cases ht
theorem sg_name {i : Nat} {x : Str} {vs : List Nat} (hN : X.N.Nodup) (h : i ∈ vs := by decide) (hi : X.N[i]? = some x := by rfl) (hx : Loc X.env.scope x := by first | exact .inl rfl | exact .inr rfl) (hf : X.fn x = true ∨ X.env.scope.names.lookup x = some .local := by first | exact .inl rfl | exact .inr rfl) : SG X cl (.Name x pos) (gName i) (tgName i) vs :=
  ⟨pg_name hN hi hx hf, sem_name h⟩
theorem sg_pair {i j : Nat} {x y : Str} {px py : Pos} {kk : Nat} {vs : List Nat} (hN : X.N.Nodup) (h : i ∈ vs := by decide) (h' : j ∈ vs := by decide) (hc : X.calm = true := by rfl) (hi : X.N[i]? = some x := by rfl) (hj : X.N[j]? = some y := by rfl) (hx : Loc X.env.scope x := by first | exact .inl rfl | exact .inr rfl) (hy : Loc X.env.scope y := by first | exact .inl rfl | exact .inr rfl)
    (hf : X.fn x = true ∨ X.env.scope.names.lookup x = some .local := by first | exact .inl rfl | exact .inr rfl) (hf' : X.fn y = true ∨ X.env.scope.names.lookup y = some .local := by first | exact .inl rfl | exact .inr rfl) : SG X cl (.Tuple [.Name x px, .Name y py] kk pos) (gTup X.K 2 (gCons (gName i) (gCons (gName j) gNil))) (tgPair i j) vs :=
  ⟨pg_tup hc (pgs_cons (pg_name hN hi hx hf) (pgs_cons (pg_name hN hj hy hf') pgs_nil)), sem_pair h h'⟩
/-- target = value, by any target -/
@[simp] def mAsg (t : TGT) (m : ME) : MS := fun δ μ => match m δ μ with
  | some (r, μ1) => match toD r with
    | some d => match t d δ with
      | some δ1 => some (.nx δ1 μ1)
      | none => none
    | none => none
  | none => none
end
end DL
set_option Elab.async false
set_option linter.all false
set_option maxRecDepth 100000
set_option maxHeartbeats 1000000
namespace DL
open PySem PySem.Spec PyProof.Rows L2

mutual
def beqD : D → D → Bool
  | .non, .non => true
  | .bl a, .bl b => a == b
  | .int a, .int b => a == b
  | .str a, .str b => decide (a = b)
  | .tup a, .tup b => beqDs a b
  | .lst a, .lst b => beqDs a b
  | .scr a, .scr b => decide (a = b)
  | .ins c a, .ins d b => c == d && beqDs a b
  | .exc c n a, .exc d m b => (c == d && decide (n = m)) && beqDs a b
  | .dk c a, .dk d b => decide (c = d) && beqDs a b
  | .dt c a, .dt d b => decide (c = d) && beqDs a b
  | _, _ => false
def beqDs : List D → List D → Bool
  | [], [] => true
  | a :: as, b :: bs => beqD a b && beqDs as bs
  | _, _ => false
end
mutual
theorem beqD_eq : ∀ {a b : D}, beqD a b = true → a = b
  | .non, b, h => by cases b <;> first | rfl | (simp [beqD] at h)
  | .bl x, b, h => by cases b <;> first | (simp [beqD] at h; subst h; rfl) | (simp [beqD] at h)
  | .int x, b, h => by cases b <;> first | (simp [beqD] at h; subst h; rfl) | (simp [beqD] at h)
  | .str x, b, h => by cases b <;> first | (simp [beqD] at h; subst h; rfl) | (simp [beqD] at h)
  | .scr x, b, h => by cases b <;> first | (simp [beqD] at h; subst h; rfl) | (simp [beqD] at h)
  | .tup xs, b, h => by
    cases b with
    | tup ys => rw [beqDs_eq (a := xs) (b := ys) (by simpa [beqD] using h)]
    | _ => simp [beqD] at h
  | .lst xs, b, h => by
    cases b with
    | lst ys => rw [beqDs_eq (a := xs) (b := ys) (by simpa [beqD] using h)]
    | _ => simp [beqD] at h
  | .ins c xs, b, h => by
    cases b with
    | ins d ys =>
      simp [beqD] at h
      rw [beqDs_eq (a := xs) (b := ys) h.2, h.1]
    | _ => simp [beqD] at h
  | .exc c ns xs, b, h => by
    cases b with
    | exc d ms ys =>
      simp only [beqD, Bool.and_eq_true, beq_iff_eq, decide_eq_true_eq] at h
      rw [beqDs_eq (a := xs) (b := ys) h.2, h.1.1, h.1.2]
    | _ => simp [beqD] at h
  | .dk c xs, b, h => by
    cases b with
    | dk d ys =>
      simp only [beqD, Bool.and_eq_true, decide_eq_true_eq] at h
      rw [beqDs_eq (a := xs) (b := ys) h.2, h.1]
    | _ => simp [beqD] at h
  | .dt c xs, b, h => by
    cases b with
    | dt d ys =>
      simp only [beqD, Bool.and_eq_true, decide_eq_true_eq] at h
      rw [beqDs_eq (a := xs) (b := ys) h.2, h.1]
    | _ => simp [beqD] at h
theorem beqDs_eq : ∀ {a b : List D}, beqDs a b = true → a = b
  | [], [], _ => rfl
  | [], _ :: _, h => by simp [beqDs] at h
  | _ :: _, [], h => by simp [beqDs] at h
  | a :: as, b :: bs, h => by
    simp [beqDs] at h
    rw [beqD_eq h.1, beqDs_eq h.2]
end
mutual
theorem beqD_refl : ∀ a : D, beqD a a = true
  | .non => rfl
  | .bl _ => by simp [beqD]
  | .int _ => by simp [beqD]
  | .str _ => by simp [beqD]
  | .scr _ => by simp [beqD]
  | .tup xs => by simp [beqD, beqDs_refl xs]
  | .lst xs => by simp [beqD, beqDs_refl xs]
  | .ins c xs => by simp [beqD, beqDs_refl xs]
  | .exc c ns xs => by simp [beqD, beqDs_refl xs]
  | .dk c xs => by simp [beqD, beqDs_refl xs]
  | .dt c xs => by simp [beqD, beqDs_refl xs]
theorem beqDs_refl : ∀ a : List D, beqDs a a = true
  | [] => rfl
  | a :: as => by simp [beqDs, beqD_refl a, beqDs_refl as]
end

abbrev MI := Sl → Mu → Option (List D × (Mu → Bool) × Mu)
/-- what is locked stays locked -/
def Fzs (H H1 : Hp) : Prop := ∀ a x u, H a = some (.frz x u) → H1 a = some (.frz x u)
def WalkD (K : PySem.W.Frag) (cl : Nat → Addr) (F : Hp) (α : List Addr) (H : Hp) (J : It) (xs : List D) (gd : Mu → Bool) : Prop := ∃ (G : Hp → Prop) (Y : Nat → Hp → V → Hp → Prop), Walk J xs.length G Y ∧
  (∀ F1 α1 μ1 H1, Same F F1 → (∃ e, α1 = α ++ e) → Fzs H H1 → Conc K cl F1 α1 μ1 H1 → gd μ1 = true → G H1) ∧
  (∀ (i : Nat) d F1 α1 μ1 H1 x H2, xs[i]? = some d → Same F F1 → (∃ e, α1 = α ++ e) → Fzs H H1 → Conc K cl F1 α1 μ1 H1 → gd μ1 = true → Y i H1 x H2 → ∃ F2, Evo F1 α1 H1 F2 α1 H2 ∧ Conc K cl F2 α1 μ1 H2 ∧ Rep K cl F2 x d)
def tmi (K : PySem.W.Frag) (cl : Nat → Addr) (m : MI) : TI := fun σ H Q => ∃ F α δ μ xs gd μ', Conc K cl F α μ H ∧ EnvOk K cl F α σ δ ∧ m δ μ = some (xs, gd, μ') ∧
  ∀ J F' H', Evo F α H F' α H' → Conc K cl F' α μ' H' → WalkD K cl F' α H' J xs gd → Q J H'
abbrev SI (X : Cx) (cl : Nat → Addr) (tg e : Expr) (m : MI) : Prop := PI X tg e (tmi X.K cl m)
theorem PI.weak {X : Cx} {tg e : Expr} {t t' : TI} (h : PI X tg e t) (k : ∀ σ H Q, t' σ H Q → t σ H Q) : PI X tg e t' := ⟨fun pins s σ H Q I hw => h.run pins s σ H Q I (k σ H Q hw)⟩
section
variable {X : Cx} {cl : Nat → Addr} {e a b c tg : Expr} {es : List Expr} {m ma mb mc : ME} {pos p : Pos} {K : PySem.W.Frag} {mt : MT} {m1 m2 : MS} {st : Stmt} {sts : List Stmt} {ms : MA}
abbrev yes : Mu → Bool := fun _ => true
/-- over a list, a tuple that stays, or a cell (as long as it is what it was) -/
@[simp] def mItL (m : ME) : MI := fun δ μ => match m δ μ with
  | some (.cel k, μ1) => match μ1[k]? with
    | some (.l xs) => some (xs, (fun μ2 => match μ2[k]? with
      | some (.l ys) => beqDs ys xs
      | _ => false), μ1)
    | _ => none
  | some (r, μ1) => match sqOf (froz r) μ1 with
    | some (.l xs) => some (xs, yes, μ1)
    | _ => none
  | none => none
@[simp] def mItT (m : ME) : MI := fun δ μ => match m δ μ with
  | some (r, μ1) => match sqOf (froz r) μ1 with
    | some (.t xs) => some (xs, yes, μ1)
    | _ => none
  | none => none
theorem walkd_at {F H0 : Hp} {α : List Addr} {J : It} {xs : List D} {vs : List V} {G : Hp → Prop} (w : Walk J vs.length G (YAt vs)) (h : Reps K cl F vs xs) (hG : ∀ F1 H1, Same F F1 → Same F1 H1 → G H1) : WalkD K cl F α H0 J xs yes := by
  refine ⟨G, YAt vs, by rw [← h.length]; exact w, fun F1 α1 μ1 H1 sm _ _ c _ => hG F1 H1 sm c.sub, fun i d F1 α1 μ1 H1 x H2 hd sm _ _ c _ y => ?_⟩
  obtain ⟨rfl, y⟩ := y
  obtain ⟨v, q1, q2⟩ := h.get hd
  rw [y] at q1
  cases q1
  exact ⟨F1, Evo.refl, c, q2.mono sm⟩
/-- the place of what is frozen -/
theorem sqFz {F H H0 : Hp} {α : List Addr} {μ : Mu} {x : V} {r : R} {q : Sq} (C : Conc K cl F α μ H) (h : RepR K cl H0 F α H x (froz r)) (hc : ∀ k, r ≠ .cel k) (e : sqOf (froz r) μ = some q) : ∃ a vs, x = .ref a ∧ Reps K cl F vs q.all ∧ q.At K F a vs := by
  cases r with
  | no => cases h
  | fc c => cases e
  | cel k => exact absurd rfl (hc k)
  | fr ys =>
    cases e
    cases h with
    | lst h1 h2 => exact ⟨_, _, rfl, h2, SqL.of h1⟩
  | dat d =>
    cases d with
    | tup ys =>
      cases e
      cases h with
      | tup h1 h2 => exact ⟨_, _, rfl, h2, h1⟩
    | lst ys =>
      cases e
      cases h with
      | lst h1 h2 => exact ⟨_, _, rfl, h2, SqL.of h1⟩
    | scr ns =>
      cases e
      cases h with
      | scr h1 => exact ⟨_, _, rfl, Reps.ints ns, h1⟩
    | _ => cases e
theorem si_list (h : SE X cl e m) : SI X cl tg e (mItL m) := by
  refine PI.weak (pi_list h) fun σ H Q ⟨F, α, δ, μ, xs, gd, μ', C, Ee, hm, k⟩ => ?_
  unfold mItL at hm
  split at hm
  · rename_i kk μ1 h1
    split at hm
    · rename_i xs h2
      cases hm
      refine ⟨F, α, δ, μ, _, μ', C, Ee, h1, fun v F1 H1 e1 c1 q1 => ?_⟩
      obtain ⟨ad, q2, rfl⟩ := q1
      obtain ⟨us, q3, q4⟩ := c1.cell kk ad _ q2 h2
      refine ⟨ad, rfl, ⟨us, SqL.of q3⟩, k _ F1 H1 e1 c1 ⟨fun H2 => ∃ ws, ws.length = xs.length ∧ SqL X.K H2 ad ws, fun i H2 x H3 => H3 = H2 ∧ ∀ ws, SqL X.K H2 ad ws → ws[i]? = some x, ⟨fun i H2 hi ⟨ws, l, hs⟩ => ?_, fun H2 ⟨ws, l, hs⟩ => ?_, fun i H2 x H3 hi ⟨ws, l, hs⟩ y => ?_⟩, fun F2 α2 μ2 H2 sm ex _ c2 g2 => ?_, fun i d F2 α2 μ2 H2 x H3 hd sm ex _ c2 g2 y => ?_⟩⟩
      · exact ⟨ws, ws[i]'(by omega), hs, List.getElem?_eq_getElem _⟩
      · exact ⟨ws, hs, by omega⟩
      · exact y
      · simp only at g2
        split at g2
        · rename_i zs e2
          have e3 := beqDs_eq g2
          subst e3
          obtain ⟨x, rfl⟩ := ex
          obtain ⟨ws, g3, g4⟩ := c2.cell kk ad _ (by rw [List.getElem?_append_left (List.getElem?_eq_some_iff.mp q2).1]; exact q2) e2
          exact ⟨ws, g4.length, SqL.of g3⟩
        · cases g2
      · simp only at g2
        split at g2
        · rename_i zs e2
          have e3 := beqDs_eq g2
          subst e3
          obtain ⟨x', rfl⟩ := ex
          obtain ⟨rfl, hx'⟩ := y
          obtain ⟨ws, g3, g4⟩ := c2.cell kk ad _ (by rw [List.getElem?_append_left (List.getElem?_eq_some_iff.mp q2).1]; exact q2) e2
          obtain ⟨v, g5, g6⟩ := g4.get hd
          have hx := hx' ws (SqL.of g3)
          rw [g5] at hx
          cases hx
          exact ⟨F2, Evo.refl, c2, g6⟩
        · cases g2
    · cases hm
  · rename_i r μ1 hnc h1
    split at hm
    · rename_i ys h2
      cases hm
      refine ⟨F, α, δ, μ, _, μ', C, Ee, h1, fun v F1 H1 e1 c1 q1 => ?_⟩
      obtain ⟨F2, e2, c2, r2⟩ := freeze e1 c1 q1
      obtain ⟨ad, vs, rfl, q2, q3⟩ := sqFz c2 r2 (fun kk z => hnc kk z) h2
      have q3' : SqL X.K F2 ad vs := q3
      exact ⟨ad, rfl, ⟨vs, c2.sub.seq q3'⟩, k _ F2 H1 e2 c2 (walkd_at walk_list q2 fun F3 H3 s1 s2 => (s1.trans s2).seq q3')⟩
    · cases hm
  · cases hm
theorem si_tup (h : SE X cl e m) : SI X cl tg e (mItT m) := by
  refine PI.weak (pi_tup h) fun σ H Q ⟨F, α, δ, μ, xs, gd, μ', C, Ee, hm, k⟩ => ?_
  unfold mItT at hm
  split at hm
  · rename_i r μ1 h1
    split at hm
    · rename_i ys h2
      cases hm
      refine ⟨F, α, δ, μ, _, μ', C, Ee, h1, fun v F1 H1 e1 c1 q1 => ?_⟩
      obtain ⟨F2, e2, c2, r2⟩ := freeze e1 c1 q1
      have hnc : ∀ kk, r ≠ .cel kk := fun kk z => by
        subst z
        simp only [froz, sqOf] at h2
        cases e7 : lstOf (.cel kk) μ' with
        | none =>
          rw [e7] at h2
          cases h2
        | some w =>
          rw [e7] at h2
          cases h2
      obtain ⟨ad, vs, rfl, q2, q3⟩ := sqFz c2 r2 hnc h2
      have q3' : SqT X.K F2 ad vs := q3
      exact ⟨ad, rfl, ⟨vs, Same.sqT c2.sub q3'⟩, k _ F2 H1 e2 c2 (walkd_at walk_tup q2 fun F3 H3 s1 s2 => Same.sqT (s1.trans s2) q3')⟩
    · cases hm
  · cases hm
end
end DL
set_option Elab.async false
set_option linter.all false
set_option maxRecDepth 100000
set_option maxHeartbeats 1000000
namespace DL
open PySem PySem.Spec PyProof.Rows L2
section
variable {X : Cx} {cl : Nat → Addr} {e a b c tg : Expr} {es : List Expr} {m ma mb mc : ME} {pos p : Pos} {K : PySem.W.Frag} {mt : MT} {m1 m2 : MS} {st : Stmt} {sts : List Stmt} {ms : MA}

theorem walkd_range {F H0 : Hp} {α : List Addr} {lo hi : Int} : WalkD K cl F α H0 (Itr lo (hi - lo).toNat) (rgD lo hi) yes := by
  refine ⟨fun _ => True, YFn fun i => .int (lo + i), ?_, fun _ _ _ _ _ _ _ _ _ => trivial, fun i d F1 α1 μ1 H1 x H2 hd sm _ _ c _ y => ?_⟩
  · have : (rgD lo hi).length = (hi - lo).toNat := by unfold rgD; rw [List.length_map, List.length_range]
    rw [this]
    exact walk_range
  · obtain ⟨rfl, rfl⟩ := y
    refine ⟨F1, Evo.refl, c, ?_⟩
    unfold rgD at hd
    rw [List.getElem?_map] at hd
    obtain ⟨j, hj, rfl⟩ := Option.map_eq_some_iff.mp hd
    obtain ⟨hlt, hj2⟩ := List.getElem?_eq_some_iff.mp hj
    rw [List.getElem_range] at hj2
    subst hj2
    exact .int _
@[simp] def mItR1 (ms : MA) : MI := fun δ μ => match ms δ μ with
  | some ([.dat (.int j)], μ1) => if -(2 ^ 62) ≤ j ∧ j < 2 ^ 62 then some (rgD 0 j, yes, μ1) else none
  | _ => none
@[simp] def mItR2 (ms : MA) : MI := fun δ μ => match ms δ μ with
  | some ([.dat (.int i), .dat (.int j)], μ1) => if -(2 ^ 62) ≤ i ∧ i < 2 ^ 62 ∧ -(2 ^ 62) ≤ j ∧ j < 2 ^ 62 then some (rgD i j, yes, μ1) else none
  | _ => none
theorem si_range1 (hm : X.mg "range" = none) (ha : SA X cl [a] ms) (hg : Gl X "range" := by rfl) (hs : starEach [a] X.env = [(false, eval a X.env)] := by rfl) : SI X cl tg (.Call (.Name "range" p) [a] [] pos) (mItR1 ms) := by
  refine PI.weak (pi_range1 hg hm ha hs) fun σ H Q ⟨F, α, δ, μ, xs, gd, μ', C, Ee, hm, k⟩ => ?_
  unfold mItR1 at hm
  split at hm
  · rename_i j μ1 h1
    split at hm
    · rename_i h2
      cases hm
      refine ⟨F, α, δ, μ, _, μ', C, Ee, h1, fun vs F1 H1 e1 c1 q1 => ?_⟩
      obtain ⟨v, rfl, q2⟩ := args1 q1
      refine ⟨j, by rw [rep_int q2], h2.1, h2.2, ?_⟩
      have := k (Itr 0 (j - 0).toNat) F1 H1 e1 c1 walkd_range
      rw [Int.sub_zero] at this
      exact this
    · cases hm
  · cases hm
theorem si_range2 (hm : X.mg "range" = none) (ha : SA X cl [a, b] ms) (hg : Gl X "range" := by rfl) (hs : starEach [a, b] X.env = [(false, eval a X.env), (false, eval b X.env)] := by rfl) (hs2 : starEach [b] X.env = [(false, eval b X.env)] := by rfl) : SI X cl tg (.Call (.Name "range" p) [a, b] [] pos) (mItR2 ms) := by
  refine PI.weak (pi_range2 hg hm ha hs hs2) fun σ H Q ⟨F, α, δ, μ, xs, gd, μ', C, Ee, hm, k⟩ => ?_
  unfold mItR2 at hm
  split at hm
  · rename_i i j μ1 h1
    split at hm
    · rename_i h2
      cases hm
      refine ⟨F, α, δ, μ, _, μ', C, Ee, h1, fun vs F1 H1 e1 c1 q1 => ?_⟩
      obtain ⟨v, w, rfl, q2, q3⟩ := args2 q1
      exact ⟨i, j, by rw [rep_int q2, rep_int q3], h2, k _ F1 H1 e1 c1 walkd_range⟩
    · cases hm
  · cases hm

theorem Conc.pair {F H : Hp} {α : List Addr} {μ : Mu} {T : Addr} {v w : V} {x y : D} (C : Conc K cl F α μ H) (hT : H T = none) (h1 : Rep K cl F v x) (h2 : Rep K cl F w y) :
    ∃ F2, Evo F α H F2 α (upd H T (.tup [v, w])) ∧ Conc K cl F2 α μ (upd H T (.tup [v, w])) ∧ Rep K cl F2 (.ref T) (.tup [x, y]) := by
  obtain ⟨e2, c2⟩ := C.new (o := .tup [v, w]) hT
  exact ⟨_, e2, c2, .tup (SqT.of upd_same) (.cons (h1.mono e2.ff) (.cons (h2.mono e2.ff) .nil))⟩
def pairsD : List D → List D → List D
  | x :: xs, y :: ys => .tup [x, y] :: pairsD xs ys
  | _, _ => []
theorem pairsD_len : ∀ xs ys : List D, (pairsD xs ys).length = min xs.length ys.length
  | [], [] => rfl
  | [], _ :: _ => rfl
  | _ :: _, [] => by simp [pairsD]
  | x :: xs, y :: ys => by simp [pairsD, pairsD_len xs ys]
theorem pairsD_get : ∀ {xs ys : List D} {i : Nat} {d : D}, (pairsD xs ys)[i]? = some d → ∃ x y, xs[i]? = some x ∧ ys[i]? = some y ∧ d = .tup [x, y]
  | [], _, _, _, h => by simp [pairsD] at h
  | _ :: _, [], _, _, h => by simp [pairsD] at h
  | x :: xs, y :: ys, 0, d, h => by
    simp [pairsD] at h
    exact ⟨x, y, rfl, rfl, h.symm⟩
  | x :: xs, y :: ys, i + 1, d, h => by
    obtain ⟨u, w, h1, h2, h3⟩ := pairsD_get (xs := xs) (ys := ys) (i := i) (d := d) (by simpa [pairsD] using h)
    exact ⟨u, w, by simpa using h1, by simpa using h2, h3⟩
theorem walk_zipT {K : PySem.W.Frag} {a b : Addr} {xs ys : List V} {n : Nat} (hn : n = min xs.length ys.length) : Walk (RZ.ItzT K a b) n (fun H => SqT K H a xs ∧ SqT K H b ys) (YPair (fun i => xs[i]?) (fun i => ys[i]?)) := by
  subst hn
  refine ⟨fun i H hi ⟨h1, h2⟩ => ⟨xs, ys, xs[i]'(by omega), ys[i]'(by omega), h1, h2, List.getElem?_eq_getElem _, List.getElem?_eq_getElem _⟩, fun H ⟨h1, h2⟩ => ⟨xs, ys, h1, h2, by omega⟩, fun i H v H' _ ⟨h1, h2⟩ y => ?_⟩
  obtain ⟨T, x1, x2, e1, e2, e3, g1, g2⟩ := y
  exact ⟨T, x1, x2, e1, e2, e3, g1 xs h1, g2 ys h2⟩
@[simp] def mItZ (ms : MA) : MI := fun δ μ => match ms δ μ with
  | some ([x, y], μ1) => match x, y with
    | .dat (.lst xs), .dat (.lst ys) => some (pairsD xs ys, yes, μ1)
    | .dat (.tup xs), .dat (.tup ys) => some (pairsD xs ys, yes, μ1)
    | _, _ => none
  | _ => none
theorem walkd_pair {F H0 : Hp} {α : List Addr} {J : It} {xs ys : List D} {vs ws : List V} {G : Hp → Prop} (w : Walk J (min vs.length ws.length) G (YPair (fun i => vs[i]?) (fun i => ws[i]?))) (h : Reps K cl F vs xs) (h' : Reps K cl F ws ys) (hG : ∀ F1 H1, Same F F1 → Same F1 H1 → G H1) : WalkD K cl F α H0 J (pairsD xs ys) yes := by
  refine ⟨G, _, by rw [pairsD_len, ← h.length, ← h'.length]; exact w, fun F1 α1 μ1 H1 sm _ _ c _ => hG F1 H1 sm c.sub, fun i d F1 α1 μ1 H1 x H2 hd sm _ _ c _ y => ?_⟩
  obtain ⟨T, v1, v2, rfl, hT, rfl, g1, g2⟩ := y
  obtain ⟨d1, d2, k1, k2, rfl⟩ := pairsD_get hd
  obtain ⟨u1, l1, r1⟩ := h.get k1
  obtain ⟨u2, l2, r2⟩ := h'.get k2
  have g1' : vs[i]? = some v1 := g1
  have g2' : ws[i]? = some v2 := g2
  rw [l1] at g1'
  rw [l2] at g2'
  cases g1'
  cases g2'
  exact c.pair hT (r1.mono sm) (r2.mono sm)
theorem si_zip {elts : List Expr} {kk : Nat} {tpos : Pos} (hm : X.mg "zip" = none) (ha : SA X cl [a, b] ms) (hg : Gl X "zip" := by rfl) (hs : starEach [a, b] X.env = (false, eval a X.env) :: starEach [b] X.env := by rfl) (hpl : (backTo pos (starEach [b] X.env)).any (·.1) = false := by rfl) :
    SI X cl (.Tuple elts kk tpos) (.Call (.Name "zip" p) [a, b] [] pos) (mItZ ms) := by
  refine PI.weak (RZ.pi_zipA hg hm ha hs hpl) fun σ H Q ⟨F, α, δ, μ, xs, gd, μ', C, Ee, hm, k⟩ => ?_
  unfold mItZ at hm
  split at hm
  · rename_i r1 r2 μ1 h1
    split at hm
    · rename_i ys zs
      cases hm
      refine ⟨F, α, δ, μ, _, μ', C, Ee, h1, fun vs F1 H1 e1 c1 q1 => ?_⟩
      obtain ⟨v, w, rfl, q2, q3⟩ := args2 q1
      cases q2 with
      | lst g1 g2 =>
        cases q3 with
        | lst g3 g4 =>
          exact ⟨_, _, _, _, rfl, .inl ⟨SqL.of (c1.sub _ _ g1), SqL.of (c1.sub _ _ g3), k _ F1 H1 e1 c1 (walkd_pair (walk_zip rfl) g2 g4 fun F2 H2 s1 s2 => ⟨SqL.of ((s1.trans s2) _ _ g1), SqL.of ((s1.trans s2) _ _ g3)⟩)⟩⟩
    · rename_i ys zs
      cases hm
      refine ⟨F, α, δ, μ, _, μ', C, Ee, h1, fun vs F1 H1 e1 c1 q1 => ?_⟩
      obtain ⟨v, w, rfl, q2, q3⟩ := args2 q1
      cases q2 with
      | tup g1 g2 =>
        cases q3 with
        | tup g3 g4 =>
          exact ⟨_, _, _, _, rfl, .inr ⟨Same.sqT c1.sub g1, Same.sqT c1.sub g3, k _ F1 H1 e1 c1 (walkd_pair (walk_zipT rfl) g2 g4 fun F2 H2 s1 s2 => ⟨Same.sqT (s1.trans s2) g1, Same.sqT (s1.trans s2) g3⟩)⟩⟩
    · cases hm
  · cases hm

def enumD : Nat → List D → List D
  | _, [] => []
  | i, x :: xs => .tup [.int (i : Nat), x] :: enumD (i + 1) xs
theorem enumD_len : ∀ (i : Nat) (xs : List D), (enumD i xs).length = xs.length
  | _, [] => rfl
  | i, x :: xs => by simp [enumD, enumD_len (i + 1) xs]
theorem enumD_get : ∀ {xs : List D} {j i : Nat} {d : D}, (enumD j xs)[i]? = some d → ∃ x, xs[i]? = some x ∧ d = .tup [.int ((j + i : Nat) : Int), x]
  | [], _, _, _, h => by simp [enumD] at h
  | x :: xs, j, 0, d, h => by
    simp [enumD] at h
    exact ⟨x, rfl, h.symm⟩
  | x :: xs, j, i + 1, d, h => by
    obtain ⟨u, h1, h2⟩ := enumD_get (xs := xs) (j := j + 1) (i := i) (d := d) (by simpa [enumD] using h)
    exact ⟨u, by simpa using h1, by rw [h2, show j + 1 + i = j + (i + 1) by omega]⟩
@[simp] def mItE (ms : MA) : MI := fun δ μ => match ms δ μ with
  | some ([.dat (.lst xs)], μ1) => some (enumD 0 xs, yes, μ1)
  | _ => none
theorem si_enum {elts : List Expr} {kk : Nat} {tpos : Pos} (hm : X.mg "enumerate" = none) (ha : SA X cl [a] ms) (hg : Gl X "enumerate" := by rfl) (hs : starEach [a] X.env = [(false, eval a X.env)] := by rfl) :
    SI X cl (.Tuple elts kk tpos) (.Call (.Name "enumerate" p) [a] [] pos) (mItE ms) := by
  refine PI.weak (pi_enum hg hm ha hs) fun σ H Q ⟨F, α, δ, μ, xs, gd, μ', C, Ee, hm, k⟩ => ?_
  unfold mItE at hm
  split at hm
  · rename_i ys μ1 h1
    cases hm
    refine ⟨F, α, δ, μ, _, μ', C, Ee, h1, fun vs F1 H1 e1 c1 q1 => ?_⟩
    obtain ⟨v, rfl, q2⟩ := args1 q1
    cases q2 with
    | @lst ad us ds g1 g2 =>
      refine ⟨ad, us, rfl, SqL.of (c1.sub _ _ g1), k _ F1 H1 e1 c1 ⟨fun H => SqL X.K H ad us, YPair (fun i => some (.int (i : Nat))) (fun i => us[i]?), ?_, fun F2 α2 μ2 H2 s1 _ _ c2 _ => SqL.of ((s1.trans c2.sub) _ _ g1), fun i d F2 α2 μ2 H2 x H3 hd sm _ _ c _ y => ?_⟩⟩
      · rw [enumD_len, ← g2.length]
        exact walk_enum
      · obtain ⟨T, v1, v2, rfl, hT, rfl, l1, l2⟩ := y
        obtain ⟨d2, k2, rfl⟩ := enumD_get hd
        obtain ⟨u2, l3, r2⟩ := g2.get k2
        have l2' : us[i]? = some v2 := l2
        rw [l3] at l2'
        cases l2'
        cases l1
        rw [Nat.zero_add]
        exact c.pair hT (.int _) (r2.mono sm)
  · cases hm

def loop (gd : Mu → Bool) (t : TGT) (mb : MS) : List D → Sl → Mu → Option Flo
  | [], δ, μ => if gd μ = true then some (.nx δ μ) else none
  | x :: xs, δ, μ => if gd μ = true then match t x δ with
      | none => none
      | some δ1 => match mb δ1 μ with
        | some (.nx δ2 μ2) => loop gd t mb xs δ2 μ2
        | some (.ct δ2 μ2) => loop gd t mb xs δ2 μ2
        | some (.bk δ2 μ2) => some (.nx δ2 μ2)
        | some (.rt r μ2) => some (.rt r μ2)
        | none => none
    else none
@[simp] def mFor (mi : MI) (t : TGT) (mb : MS) : MS := fun δ μ => match mi δ μ with
  | none => none
  | some (xs, gd, μ1) => loop gd t mb xs δ μ1
theorem ss_for {mi : MI} {t : TGT} {g : TG} {vs : List Nat} (hi : SI X cl tg e mi) (hg : SG X cl tg g t vs) (hb : SSs X cl sts m1) (hp : PassesOwn (model X.prog X.w) X.A X.env X.xe := by exact PassesOwn.never) (hc : X.calm = true := by rfl) (hs : ∀ x, foldedSetIterable e X.env x = pure x := by intro _; rfl) :
    SS X cl (.For tg e sts [] pos) (mFor mi t m1) := by
  refine PS.weak (ps_for hp hc hi hg.1 hb hs) fun E σ H ⟨F, α, δ, μ, fl, C, Ee, hm, k⟩ => ?_
  unfold mFor at hm
  split at hm
  · cases hm
  rename_i xs gd μ1 h1
  refine ⟨F, α, δ, μ, xs, gd, μ1, C, Ee, h1, fun J F1 H1 e1 c1 W => ?_⟩
  obtain ⟨G, Y, w, hG, hY⟩ := W
  have gdOf : ∀ {i : Nat} {δ2 : Sl} {μ2 : Mu}, loop gd t m1 (xs.drop i) δ2 μ2 = some fl → gd μ2 = true := by
    intro i δ2 μ2 h
    cases e : xs.drop i with
    | nil =>
      rw [e] at h
      unfold loop at h
      split at h
      · rename_i z
        exact z
      · cases h
    | cons x r =>
      rw [e] at h
      unfold loop at h
      split at h
      · rename_i z
        exact z
      · cases h
  refine for_it w (fun i σ2 H2 => ∃ F2 α2 δ2 μ2, Evo F1 α H1 F2 α2 H2 ∧ Conc X.K cl F2 α2 μ2 H2 ∧ EnvOk X.K cl F2 α2 σ2 δ2 ∧ loop gd t m1 (xs.drop i) δ2 μ2 = some fl) ⟨F1, α, δ, μ1, Evo.refl, c1, Ee.step e1, hm⟩ ?_ ?_ ?_
  · rintro i σ2 H2 _ ⟨F2, α2, δ2, μ2, e2, c2, en2, h2⟩
    exact hG F2 α2 μ2 H2 e2.ff e2.ext e2.frz c2 (gdOf h2)
  · rintro i x σ2 H2 H3 hi ⟨F2, α2, δ2, μ2, e2, c2, en2, h2⟩ y
    have gt := gdOf h2
    rw [List.drop_eq_getElem_cons hi] at h2
    unfold loop at h2
    rw [if_pos gt] at h2
    split at h2
    · cases h2
    rename_i δ3 h3
    obtain ⟨F3, e3, c3, r3⟩ := hY i xs[i] F2 α2 μ2 H2 x H3 (List.getElem?_eq_getElem hi) e2.ff e2.ext e2.frz c2 gt y
    refine hg.2 F3 α2 σ2 δ2 δ3 H3 x xs[i] _ c3.sub (en2.step e3) r3 h3 fun σ3 en3 _ => ?_
    have fin : ∀ {δ4 : Sl} {μ4 : Mu}, loop gd t m1 (xs.drop (i + 1)) δ4 μ4 = some fl → ∀ F4 α4 σ4 H4, Evo F3 α2 H3 F4 α4 H4 → Conc X.K cl F4 α4 μ4 H4 → EnvOk X.K cl F4 α4 σ4 δ4 → ∃ F5 α5 δ5 μ5, Evo F1 α H1 F5 α5 H4 ∧ Conc X.K cl F5 α5 μ5 H4 ∧ EnvOk X.K cl F5 α5 σ4 δ5 ∧ loop gd t m1 (xs.drop (i + 1)) δ5 μ5 = some fl :=
      fun h F4 α4 σ4 H4 e4 c4 en4 => ⟨F4, α4, _, _, e2.trans (e3.trans e4), c4, en4, h⟩
    split at h2
    · rename_i δ4 μ4 h4
      exact ⟨F3, α2, δ3, μ2, _, c3, en3, h4, fun F4 α4 σ4 H4 e4 c4 en4 => fin h2 F4 α4 σ4 H4 e4 c4 en4⟩
    · rename_i δ4 μ4 h4
      exact ⟨F3, α2, δ3, μ2, _, c3, en3, h4, fun F4 α4 σ4 H4 e4 c4 en4 => fin h2 F4 α4 σ4 H4 e4 c4 en4⟩
    · rename_i δ4 μ4 h4
      cases h2
      exact ⟨F3, α2, δ3, μ2, _, c3, en3, h4, fun F4 α4 σ4 H4 e4 c4 en4 => k F4 α4 σ4 H4 (e1.trans (e2.trans (e3.trans e4))) c4 en4⟩
    · rename_i r4 μ4 h4
      cases h2
      exact ⟨F3, α2, δ3, μ2, _, c3, en3, h4, fun v F4 α4 H4 e4 c4 r5 => k v F4 α4 H4 (e1.trans (e2.trans (e3.trans e4))) c4 (r5.back fun p hp => e1.dom p (e2.dom p (e3.dom p hp)))⟩
    · cases h2
  · rintro σ2 H2 ⟨F2, α2, δ2, μ2, e2, c2, en2, h2⟩
    rw [List.drop_length] at h2
    unfold loop at h2
    split at h2
    · cases h2
      exact k F2 α2 σ2 H2 (e1.trans e2) c2 en2
    · cases h2

def wh (mt : MT) (mb : MS) : Nat → Sl → Mu → Option Flo
  | 0, _, _ => none
  | n + 1, δ, μ => match mt δ μ with
    | none => none
    | some (false, μ1) => some (.nx δ μ1)
    | some (true, μ1) => match mb δ μ1 with
      | some (.nx δ2 μ2) => wh mt mb n δ2 μ2
      | some (.ct δ2 μ2) => wh mt mb n δ2 μ2
      | some (.bk δ2 μ2) => some (.nx δ2 μ2)
      | some (.rt r μ2) => some (.rt r μ2)
      | none => none
theorem ss_while {n : Nat} (hc : ST X cl c mt) (hb : SSs X cl sts m1) (hp : PassesOwn (model X.prog X.w) X.A X.env X.xe := by exact PassesOwn.never) : SS X cl (.While c sts [] pos) (wh mt m1 n) := by
  refine PS.weak (ps_while hp hc hb) fun E σ H ⟨F, α, δ, μ, fl, C, Ee, hm, k⟩ => ?_
  refine ⟨fun j σ2 H2 => ∃ F2 α2 δ2 μ2, Evo F α H F2 α2 H2 ∧ Conc X.K cl F2 α2 μ2 H2 ∧ EnvOk X.K cl F2 α2 σ2 δ2 ∧ wh mt m1 j δ2 μ2 = some fl, ⟨n, F, α, δ, μ, Evo.refl, C, Ee, hm⟩, ?_⟩
  rintro j σ2 H2 ⟨F2, α2, δ2, μ2, e2, c2, en2, h2⟩
  cases j with
  | zero => cases h2
  | succ j =>
    unfold wh at h2
    split at h2
    · cases h2
    · rename_i μ3 h3
      cases h2
      exact ⟨F2, α2, δ2, μ2, _, μ3, c2, en2, h3, fun F3 H3 e3 c3 => iteF (k F3 α2 σ2 H3 (e2.trans e3) c3 (en2.step e3))⟩
    · rename_i μ3 h3
      refine ⟨F2, α2, δ2, μ2, _, μ3, c2, en2, h3, fun F3 H3 e3 c3 => iteT ⟨fun σ' H' => ∃ m', m' < j + 1 ∧ ∃ F2 α2 δ2 μ2, Evo F α H F2 α2 H' ∧ Conc X.K cl F2 α2 μ2 H' ∧ EnvOk X.K cl F2 α2 σ' δ2 ∧ wh mt m1 m' δ2 μ2 = some fl, fun _ _ h => h, ?_⟩⟩
      split at h2
      · rename_i δ4 μ4 h4
        exact ⟨F3, α2, δ2, μ3, _, c3, en2.step e3, h4, fun F4 α4 σ4 H4 e4 c4 en4 => ⟨j, Nat.lt_succ_self j, F4, α4, δ4, μ4, e2.trans (e3.trans e4), c4, en4, h2⟩⟩
      · rename_i δ4 μ4 h4
        exact ⟨F3, α2, δ2, μ3, _, c3, en2.step e3, h4, fun F4 α4 σ4 H4 e4 c4 en4 => ⟨j, Nat.lt_succ_self j, F4, α4, δ4, μ4, e2.trans (e3.trans e4), c4, en4, h2⟩⟩
      · rename_i δ4 μ4 h4
        cases h2
        exact ⟨F3, α2, δ2, μ3, _, c3, en2.step e3, h4, fun F4 α4 σ4 H4 e4 c4 en4 => k F4 α4 σ4 H4 (e2.trans (e3.trans e4)) c4 en4⟩
      · rename_i r4 μ4 h4
        cases h2
        exact ⟨F3, α2, δ2, μ3, _, c3, en2.step e3, h4, fun v F4 α4 H4 e4 c4 r5 => k v F4 α4 H4 (e2.trans (e3.trans e4)) c4 (r5.back fun p hp => e2.dom p (e3.dom p hp))⟩
      · cases h2
end
end DL
set_option Elab.async false
set_option linter.all false
set_option maxRecDepth 100000
set_option maxHeartbeats 1000000
namespace DL
open PySem PySem.Spec PyProof.Rows L2
def lcLoop (gd : Mu → Bool) (t : TGT) (mt : MT) (me : ME) (δ : Sl) : List D → List D → Mu → Option (List D × Mu)
  | [], acc, μ => if gd μ = true then some (acc, μ) else none
  | x :: xs, acc, μ => if gd μ = true then match t x δ with
      | none => none
      | some δ1 => match mt δ1 μ with
        | none => none
        | some (false, μ1) => lcLoop gd t mt me δ xs acc μ1
        | some (true, μ1) => match me δ1 μ1 with
          | none => none
          | some (r, μ2) => match toD r with
            | none => none
            | some d => if acc.length < 100000 then lcLoop gd t mt me δ xs (acc ++ [d]) μ2 else none
    else none
@[simp] def wipeR (δ : Sl) : List Nat → Sl
  | [] => δ
  | v :: vs => (wipeR δ vs).set v .no
@[simp] def mLc (mi : MI) (t : TGT) (mt : MT) (me : ME) (vs : List Nat) : ME := fun δ μ => match mi δ μ with
  | none => none
  | some (xs, gd, μ1) => match lcLoop gd t mt me (wipeR δ vs) xs [] μ1 with
    | none => none
    | some (ys, μ2) => some (.fr ys, μ2)
@[simp] def mYes : MT := fun _ μ => some (true, μ)
section
variable {X : Cx} {cl : Nat → Addr} {e a b c tg : Expr} {es : List Expr} {m ma mb mc : ME} {pos p : Pos} {K : PySem.W.Frag} {mt : MT} {m1 m2 : MS} {st : Stmt} {sts : List Stmt} {ms : MA}
theorem env_wipe {F : Hp} {α : List Addr} {σ : L2.St} {δ : Sl} (h : EnvOk K cl F α σ δ) : ∀ vs : List Nat, EnvOk K cl F α (wipe σ vs) (wipeR δ vs)
  | [] => h
  | v :: vs => by
    have ih := env_wipe h vs
    unfold wipe wipeR
    refine ⟨by simp [ih.1], fun i d q => ?_, fun i k q => ?_⟩
    · by_cases hj : v = i
      · subst hj
        have hi : v < (wipeR δ vs).length := by
          have := (List.getElem?_eq_some_iff.mp q).1
          simpa using this
        rw [List.getElem?_set_self hi] at q
        cases q
      · rw [List.getElem?_set_ne hj] at q ⊢
        exact ih.2.1 i d q
    · by_cases hj : v = i
      · subst hj
        have hi : v < (wipeR δ vs).length := by
          have := (List.getElem?_eq_some_iff.mp q).1
          simpa using this
        rw [List.getElem?_set_self hi] at q
        cases q
      · rw [List.getElem?_set_ne hj] at q ⊢
        exact ih.2.2 i k q
theorem stt_nil : PTs X [] (tmt X.K cl mYes) := ⟨fun pins s σ H Q I h => pts_nil.run pins s σ H Q I (by
  obtain ⟨F, α, δ, μ, b, μ', C, Ee, hm, k⟩ := h
  cases hm
  exact k F H Evo.refl C)⟩
theorem stt_one (h : ST X cl c mt) : PTs X [c] (tmt X.K cl mt) := pts_one h
/-- the list that is being made: out of the frozen part, no cell -/
theorem Conc.out1 {F H : Hp} {α : List Addr} {μ : Mu} {D0 : Addr} {o u : HO} (C : Conc K cl F α μ H) (h1 : F D0 = none) (h2 : D0 ∉ α) (h3 : H D0 = some u) : Conc K cl F α μ (upd H D0 o) := by
  refine ⟨fun b x h => ?_, C.len, C.nd, fun k b xs q1 q2 => ?_, C.out⟩
  · rw [upd_ne (fun z => by rw [z, h1] at h; cases h)]
    exact C.sub b x h
  · rw [upd_ne (fun z => h2 (by rw [← z]; exact List.mem_of_getElem? q1))]
    exact C.cell k b xs q1 q2
theorem Evo.out1 {F H F' H' : Hp} {α α' : List Addr} {D0 : Addr} {o u : HO} (e : Evo F α H F' α' H') (h1 : H D0 = none) : Evo F α H F' α' (upd H' D0 o) := by
  refine ⟨e.ff, e.ext, fun b x h q => ?_, fun b h => ?_, e.fre, e.fra, fun b x u h => by rw [upd_ne (ne_of_none h h1)]; exact e.frz b x u h⟩
  · rw [upd_ne (ne_of_none h h1)]
    exact e.hh b x h q
  · by_cases z : b = D0
    · rw [z]
      exact h1
    · rw [upd_ne z] at h
      exact e.dom b h
theorem lc_imp {mi : MI} {t : TGT} {g : TG} {me : ME} {vs : List Nat} (hg : TgSem K cl g t vs) : ∀ σ H Q, tm K cl (mLc mi t mt me vs) σ H Q → tLc (tmi K cl mi) g (tmt K cl mt) (tm K cl me) vs σ H Q := fun σ H Q ⟨F, α, δ, μ, z, μ', C, Ee, hm, k⟩ => by
  unfold mLc at hm
  split at hm
  · cases hm
  rename_i xs gd μ1 h1
  split at hm
  · cases hm
  rename_i ys μ2 h2
  cases hm
  refine ⟨F, α, δ, μ, xs, gd, μ1, C, Ee, h1, fun J F1 H1 e1 c1 W D0 hD => ?_⟩
  obtain ⟨G, Y, w, hG, hY⟩ := W
  have fD : F1 D0 = none := by
    cases q : F1 D0 with
    | none => rfl
    | some u =>
      rw [c1.sub D0 u q] at hD
      cases hD
  have aD : D0 ∉ α := fun ha => by
    obtain ⟨kk, hk, ek⟩ := List.mem_iff_getElem.mp ha
    have hk2 : kk < μ1.length := by rw [← c1.len]; exact hk
    obtain ⟨us, q⟩ := (c1.cell kk D0 μ1[kk] (by rw [List.getElem?_eq_getElem hk, ek]) (List.getElem?_eq_getElem hk2)).some
    rw [hD] at q
    cases q
  have gdOf : ∀ {i : Nat} {acc : List D} {μ3 : Mu}, lcLoop gd t mt me (wipeR δ vs) (xs.drop i) acc μ3 = some (ys, μ') → gd μ3 = true := by
    intro i acc μ3 h
    cases e : xs.drop i with
    | nil =>
      rw [e] at h
      unfold lcLoop at h
      split at h
      · rename_i z
        exact z
      · cases h
    | cons x r =>
      rw [e] at h
      unfold lcLoop at h
      split at h
      · rename_i z
        exact z
      · cases h
  refine lc_it w (fun i H2 => ∃ F2 μ3 acc us, Evo F1 α H1 F2 α H2 ∧ Conc K cl F2 α μ3 H2 ∧ F2 D0 = none ∧ H2 D0 = some (.lst us) ∧ Reps K cl F2 us acc ∧ lcLoop gd t mt me (wipeR δ vs) (xs.drop i) acc μ3 = some (ys, μ')) ?_ ?_ ?_ ?_
  · obtain ⟨e2, c2, r2⟩ := c1.newL hD .nil
    exact ⟨F1, μ1, [], [], e2, c2, fD, upd_same, .nil, h2⟩
  · rintro i H2 _ ⟨F2, μ3, acc, us, e2, c2, f2, d2, q2, h3⟩
    exact hG F2 α μ3 H2 e2.ff ⟨[], by simp⟩ e2.frz c2 (gdOf h3)
  · rintro i x H2 H3 hi ⟨F2, μ3, acc, us, e2, c2, f2, d2, q2, h3⟩ y
    have gt := gdOf h3
    rw [List.drop_eq_getElem_cons hi] at h3
    unfold lcLoop at h3
    rw [if_pos gt] at h3
    split at h3
    · cases h3
    rename_i δ1 h4
    obtain ⟨F3, e3, c3, r3⟩ := hY i xs[i] F2 α μ3 H2 x H3 (List.getElem?_eq_getElem hi) e2.ff ⟨[], by simp⟩ e2.frz c2 gt y
    have keepD : ∀ {F4 H4 : Hp}, Evo F2 α H2 F4 α H4 → F4 D0 = none ∧ H4 D0 = some (.lst us) := fun {F4 H4} e4 => by
      refine ⟨?_, e4.hh D0 _ d2 aD⟩
      cases q : F4 D0 with
      | none => rfl
      | some u =>
        have := e4.fre D0 u f2 q
        rw [d2] at this
        cases this
    refine hg F3 α (wipe σ vs) (wipeR δ vs) δ1 H3 x xs[i] _ c3.sub ((env_wipe ((Ee.step e1).step e2) vs).step e3) r3 h4 fun σ1 en1 hw => ⟨by rw [hw, wipe_eq (wipe_length σ vs) fun j hj => wipe_out hj], ?_⟩
    split at h3
    · cases h3
    · rename_i μ4 h5
      refine ⟨F3, α, δ1, μ3, _, μ4, c3, en1, h5, fun F4 H4 e4 c4 => iteF ?_⟩
      obtain ⟨k1, k2⟩ := keepD (e3.trans e4)
      exact ⟨F4, μ4, acc, us, e2.trans (e3.trans e4), c4, k1, k2, q2.mono (e3.trans e4).ff, h3⟩
    · rename_i μ4 h5
      split at h3
      · cases h3
      rename_i r5 μ5 h6
      split at h3
      · cases h3
      rename_i d h7
      split at h3
      · rename_i hl
        refine ⟨F3, α, δ1, μ3, _, μ4, c3, en1, h5, fun F4 H4 e4 c4 => iteT ⟨F4, α, δ1, μ4, r5, μ5, c4, en1.step e4, h6, fun v F5 H5 e5 c5 r5' => ?_⟩⟩
        obtain ⟨F6, e6, c6, r6⟩ := freeze e5 c5 r5'
        rw [froz_dat h7] at r6
        have eAll := e3.trans (e4.trans e6)
        obtain ⟨k1, k2⟩ := keepD eAll
        have q6 := q2.mono eAll.ff
        refine ⟨us, k2, sz_lt (by rw [q6.length]; exact hl), F6, μ5, acc ++ [d], us ++ [v], (e2.trans eAll).out1 (u := .lst us) hD, c6.out1 k1 aD k2, k1, upd_same, q6.append (.cons r6 .nil), h3⟩
      · cases h3
  · rintro H2 ⟨F2, μ3, acc, us, e2, c2, f2, d2, q2, h3⟩
    rw [List.drop_length] at h3
    unfold lcLoop at h3
    split at h3
    · cases h3
      exact k _ F2 H2 (e1.trans e2) c2 ⟨D0, us, rfl, e1.dom D0 hD, f2, aD, d2, q2⟩
    · cases h3
theorem se_lc {elt iter : Expr} {ifs : List Expr} {scope : Scope} {own : List (Str × Nat)} {mi : MI} {t : TGT} {g : TG} {me : ME} (hN : X.N.Nodup) (hi : SI X cl tg iter mi) (hgs : TgSem X.K cl g t (own.map (·.2)))
    (hg : ∀ (s : Shared) (H : Hp) (C : Addr) (cc : List (Str × Addr)) (fp : List Addr), PG (X.blk s H scope (compEnvC scope cc C X.env) fp) tg g)
    (ht : ∀ (s : Shared) (H : Hp) (C : Addr) (cc : List (Str × Addr)) (fp : List Addr), PTs (X.blk s H scope (compEnvC scope cc C X.env) fp) ifs (tmt X.K cl mt))
    (he : ∀ (s : Shared) (H : Hp) (C : Addr) (cc : List (Str × Addr)) (fp : List Addr), PE (X.blk s H scope (compEnvC scope cc C X.env) fp) elt (tm X.K cl me)) (ok : BlkOk X.N X.env.scope scope own) (hc : X.calm = true := by rfl) (hs : ∀ x, foldedSetIterable iter X.env x = pure x := by intro _; rfl) :
    SE X cl (.ListComp elt [⟨tg, iter, ifs, 0⟩] scope pos) (mLc mi t mt me (own.map (·.2))) := PE.weak (pe_lc hc hN hi ok hg ht he hs) (lc_imp hgs)
/-- y = [..] on one row -/
theorem asg_imp {t1 t2 : TE} {i : Nat} (h : ∀ σ H Q, t1 σ H Q → t2 σ H Q) : ∀ E σ H, tAsg t1 (gName i) E σ H → tAsg t2 (gName i) E σ H := fun E σ H q => h σ H _ q
theorem ss_setLc {i : Nat} {y : Str} {py spos : Pos} {elt iter : Expr} {ifs : List Expr} {scope : Scope} {own : List (Str × Nat)} {mi : MI} {t : TGT} {g : TG} {me : ME} (hN : X.N.Nodup) (hi : SI X cl tg iter mi) (hgs : TgSem X.K cl g t (own.map (·.2)))
    (hg : ∀ (s : Shared) (H : Hp) (C : Addr) (cc : List (Str × Addr)) (fp : List Addr), PG (X.blk s H scope (compEnvC scope cc C X.env) fp) tg g)
    (ht : ∀ (s : Shared) (H : Hp) (C : Addr) (cc : List (Str × Addr)) (fp : List Addr), PTs (X.blk s H scope (compEnvC scope cc C X.env) fp) ifs (tmt X.K cl mt))
    (he : ∀ (s : Shared) (H : Hp) (C : Addr) (cc : List (Str × Addr)) (fp : List Addr), PE (X.blk s H scope (compEnvC scope cc C X.env) fp) elt (tm X.K cl me)) (ok : BlkOk X.N X.env.scope scope own)
    (hsw : swapsWith (.ListComp elt [⟨tg, iter, ifs, 0⟩] scope pos) (some (.Name y py)) spos.line X.env = pure true) (hy : X.N[i]? = some y := by rfl) (hyl : X.env.scope.names.lookup y = some .local := by rfl) (hc : X.calm = true := by rfl) (hs : ∀ x, foldedSetIterable iter X.env x = pure x := by intro _; rfl) :
    SS X cl (.Assign [.Name y py] (.ListComp elt [⟨tg, iter, ifs, 0⟩] scope pos) spos) (mSet i (mLc mi t mt me (own.map (·.2)))) :=
  PS.weak (ps_setLc hc hN hy hyl hsw hi ok hg ht he hs) fun E σ H h => asg_imp (lc_imp hgs) E σ H (set_imp E σ H h)

@[simp] def pick {β : Type} (is : List Nat) (l : List β) : List β := is.filterMap fun i => l[i]?
abbrev SK (X : Cx) (cl : Nat → Addr) (kws : List Keyword) (m : MA) : Prop := PK X kws (tma X.K cl m)
theorem PK.weak {kws : List Keyword} {t t' : TA} (h : PK X kws t) (k : ∀ σ H Q, t' σ H Q → t σ H Q) : PK X kws t' := ⟨fun pos pins s σ H Q I hw => h.run pos pins s σ H Q I (k σ H Q hw)⟩
theorem ArgRs.append {F : Hp} {α : List Addr} : ∀ {vs us : List V} {rs qs : List R}, ArgRs K cl F α vs rs → ArgRs K cl F α us qs → ArgRs K cl F α (vs ++ us) (rs ++ qs)
  | _, _, _, _, .nil, q => q
  | _, _, _, _, .cons r q, s => .cons r (ArgRs.append q s)
theorem ArgRs.pick {F : Hp} {α : List Addr} {vs : List V} {rs : List R} (h : ArgRs K cl F α vs rs) : ∀ is : List Nat, ArgRs K cl F α (pick is vs) (pick is rs)
  | [] => .nil
  | i :: is => by
    have ih := ArgRs.pick h is
    unfold DL.pick at ih ⊢
    rw [List.filterMap_cons, List.filterMap_cons]
    cases e : rs[i]? with
    | none =>
      have e2 : vs[i]? = none := List.getElem?_eq_none (by rw [h.length]; exact List.getElem?_eq_none_iff.mp e)
      rw [e2]
      exact ih
    | some r =>
      obtain ⟨v, e2, q⟩ := h.get e
      rw [e2]
      exact .cons q ih
theorem vals_pick {vs : List V} {us : List Value} (h : Vals vs us) : ∀ is : List Nat, Vals (pick is vs) (pick is us)
  | [] => .nil
  | i :: is => by
    have ih := vals_pick h is
    unfold DL.pick at ih ⊢
    rw [List.filterMap_cons, List.filterMap_cons]
    cases e : vs[i]? with
    | none =>
      rw [h.none_of e]
      exact ih
    | some r =>
      obtain ⟨v, e2, q⟩ := h.get e
      rw [e2]
      exact .cons q ih
/-- a def that is called by names -/
structure FK (P : Program) (w : World) (K : PySem.W.Frag) (mg : Str → Option Value) (base : Heap) (cl : Nat → Addr) (k : Nat) (x : Str) (n : Nat) (m : MF) (np : Nat) (ks : List Str) (is : List Nat) : Prop where
  ok : ∃ (f : Addr) (fd : FuncData) (ps : List Str), FnOk P w K mg base CX0 k f fd ps (spM K cl n m) ∧ mg x = some (.ref f) ∧ PySem.W.keepIn K (.ref f) = true ∧ KBn K fd ps np ks (fun us ws => pick is (us ++ ws)) (fun us ws => pick is (us ++ ws))
  ar : ∀ rs μ z, m rs μ = some z → rs.length = n
theorem kbn_of {fd : FuncData} {ps : List Str} {np : Nat} {ks : List Str} {is : List Nat} (h : ∀ (s : Shared) (us ws : List Value), K.In s.heap → us.length = np → ws.length = ks.length → BindsTo s fd ⟨us, ks.zip ws⟩ (ps.zip (pick is (us ++ ws)))) : KBn K fd ps np ks (fun us ws => pick is (us ++ ws)) (fun us ws => pick is (us ++ ws)) :=
  ⟨h, fun h1 h2 => vals_pick (Vals.append h1 h2) is⟩
@[simp] def mCallK (f : MF) (np nk : Nat) (is : List Nat) (ms mk : MA) : ME := fun δ μ => match ms δ μ with
  | none => none
  | some (rs, μ1) => match mk δ μ1 with
    | none => none
    | some (zs, μ2) => if rs.length = np ∧ zs.length = nk then f (pick is (rs ++ zs)) μ2 else none
variable {k j n np : Nat} {x : Str} {mf : MF} {mk : MA} {ks : List Str} {is : List Nat} {kws : List Keyword}
end
end DL
set_option Elab.async false
set_option linter.all false
set_option maxRecDepth 100000
set_option maxHeartbeats 1000000
namespace DL
open PySem PySem.Spec PyProof.Rows L2
section
variable {X : Cx} {cl : Nat → Addr} {e a b c tg : Expr} {es : List Expr} {m ma mb mc : ME} {pos p : Pos} {K : PySem.W.Frag}
/-- over a list or a tuple -/
@[simp] def mIt (m : ME) : MI := fun δ μ => match mItL m δ μ with
  | some z => some z
  | none => mItT m δ μ
theorem si_seq (h : SE X cl e m) : SI X cl tg e (mIt m) := by
  refine ⟨fun pins s σ H Q I hw => ?_⟩
  obtain ⟨F, α, δ, μ, xs, gd, μ', C, Ee, hm, k⟩ := hw
  unfold mIt at hm
  split at hm
  · rename_i z h1
    cases hm
    exact (si_list h).run pins s σ H Q I ⟨F, α, δ, μ, xs, gd, μ', C, Ee, h1, k⟩
  · exact (si_tup h).run pins s σ H Q I ⟨F, α, δ, μ, xs, gd, μ', C, Ee, hm, k⟩
end
theorem def_zero {P : Program} {w : World} {K : PySem.W.Frag} {mg : Str → Option Value} {base : Heap} {cl : Nat → Addr} {k n : Nat} {f : Addr} {fd : FuncData} {ps : List Str} : FnOk P w K mg base CX0 k f fd ps (spM K cl n (fun _ _ => none)) :=
  have no : ∀ vs H Q E, spM K cl n (fun _ _ => none) vs H Q E → False := fun vs H Q E h => by
    obtain ⟨_, _, _, _, _, _, _, _, _, h, _⟩ := h
    cases h
  ⟨fun vs H Q E h => (no vs H Q E h).elim, fun A outer s H args us vs Q E _ _ _ _ h => (no vs H Q E h).elim⟩
def sub1 : Stmt → List Stmt
  | .If _ b _ _ => b
  | .For _ _ b _ _ => b
  | .While _ b _ _ => b
  | _ => []
def sub2 : Stmt → List Stmt
  | .If _ _ b _ => b
  | _ => []
/-- the built-ins are as they were -/
structure Bt (mg : Str → Option Value) : Prop where
  len : mg "len" = none
  abs : mg "abs" = none
  int : mg "int" = none
  min : mg "min" = none
  max : mg "max" = none
  list : mg "list" = none
  tuple : mg "tuple" = none
  bool : mg "bool" = none
  str : mg "str" = none
  range : mg "range" = none
  zip : mg "zip" = none
  enumerate : mg "enumerate" = none
  all : mg "all" = none
  any : mg "any" = none
  isinstance : mg "isinstance" = none
theorem boot_bool' : bootBuiltins "bool" = some (.type "bool") := by decide +kernel
theorem boot_int' : bootBuiltins "int" = some (.type "int") := by decide +kernel
theorem boot_str' : bootBuiltins "str" = some (.type "str") := by decide +kernel
theorem boot_list' : bootBuiltins "list" = some (.type "list") := by decide +kernel
theorem boot_tuple' : bootBuiltins "tuple" = some (.type "tuple") := by decide +kernel
/-- the script is handed in, True is wanted -/
def spLaw (K : PySem.W.Frag) : Sp := fun vs H Q _ => ∃ (a : Addr) (ns : List Int), vs = [.ref a] ∧ SqL K H a (ns.map V.int) ∧ ns.length ≤ 63 ∧ ∀ H', Q (.bl true) H'
theorem law_end {P : Program} {w : World} {K : PySem.W.Frag} {mg : Str → Option Value} {base : Heap} {cl : Nat → Addr} {k : Nat} {f : Addr} {fd : FuncData} {ps : List Str} {m : MF} (F : FnOk P w K mg base CX0 k f fd ps (spM K cl 1 m))
    (h : ∀ ns : List Int, ns.length ≤ 63 → m [.dat (.scr ns)] [] = some (.dat (.bl true), [])) : FnOk P w K mg base CX0 k f fd ps (spLaw K) := by
  refine F.imp fun vs H Q E q => ?_
  obtain ⟨a, ns, rfl, hS, hl, q⟩ := q
  refine ⟨H, [], [], [.dat (.scr ns)], _, _, rfl, ⟨Same.refl H, rfl, List.nodup_nil, fun k a xs h => by simp at h, fun a h => by simp at h⟩, .cons (.scr hS) .nil, h ns hl, fun v F' H' e c r => ?_⟩
  rw [rep_bl r]
  exact q H'
theorem walk {l : PySem.W.OpenLaw} {q : Program} {loose : List Str} {XP : (Str → Option Value) → Heap → Prop} {YP : World → Heap → Prop} {d : DefRec} {K : Params → PySem.W.Frag} {k : Nat} (hk : k ≤ 200) (hn : l.most = some 63) (hdf : d.params.defaults = [])
    (hY : ∀ (w : World) (h : Heap), YP w h → (K w.params).In h)
    (F : ∀ (w : World) (mg : Str → Option Value) (fa : Addr) (h : Heap), (K w.params).In h → h.Ns mainGlobals mg → mg d.name = some (.ref fa) →
      ∃ fd : FuncData, (∀ (s : Shared) (u : Value), BindsTo s fd ⟨[u], []⟩ [("_law_script", u)]) ∧ ∀ base : Heap, (K w.params).In base → base.Ns mainGlobals mg → FnOk l.prog w (K w.params) mg base CX0 k fa fd ["_law_script"] (spLaw (K w.params))) :
    PySem.W.WalkO q loose XP YP l.row.toRowW d [] (fun f vs => PySem.call f vs) :=
  L2.walk_of (n := 63) (k := k) (x := "_law_script") (CX := fun _ => CX0) (sp := fun w => spLaw (K w.params)) hn (by decide) hdf (Room.mono (k := 200) ⟨rfl, by decide, by decide⟩ hk) hY F (fun _ _ a ns hl _ hS => ⟨a, ns, rfl, hS, hl, fun _ => rfl⟩) fun _ _ _ _ _ z => z
end DL
set_option Elab.async false
set_option linter.all false
set_option maxRecDepth 100000
set_option maxHeartbeats 1000000
namespace DL
open PySem PySem.Spec PyProof.Rows L2

@[simp] def cellsIn : List R → List Nat
  | [] => []
  | .cel k :: rs => k :: cellsIn rs
  | _ :: rs => cellsIn rs
@[simp] def plainR : R → Bool
  | .dat _ => true
  | .fr _ => true
  | .fc c => c.low 0
  | _ => false
@[simp] def reCel : List R → List R
  | [] => []
  | .cel _ :: rs => .cel 0 :: reCel rs
  | r :: rs => r :: reCel rs
@[simp] def callX (f : MF) : MF := fun rs μ => match cellsIn rs with
  | [] => match f rs [] with
    | some (r, []) => if plainR r = true then some (r, μ) else none
    | _ => none
  | [k] => match μ[k]? with
    | some xs => if xs.low 0 = true then match f (reCel rs) [xs] with
      | some (r, [ys]) => if plainR r = true ∧ ys.low 0 = true then some (r, μ.set k ys) else none
      | _ => none
      else none
    | none => none
  | _ => none
section
variable {K : PySem.W.Frag} {cl : Nat → Addr}
theorem args_none {F : Hp} {α β : List Addr} : ∀ {vs : List V} {rs : List R}, ArgRs K cl F α vs rs → cellsIn rs = [] → ArgRs K cl F β vs rs
  | _, _, .nil, _ => .nil
  | _, _, .cons (r := r) h q, e => by
    cases r with
    | dat d => exact .cons h (args_none q e)
    | cel k => cases e
    | no => exact h.elim
    | fr xs => exact h.elim
    | fc c => exact h.elim
theorem args_one {F : Hp} {α : List Addr} {k : Nat} {a : Addr} (ha : α[k]? = some a) : ∀ {vs : List V} {rs : List R}, ArgRs K cl F α vs rs → (∀ j, j ∈ cellsIn rs → j = k) → ArgRs K cl F [a] vs (reCel rs)
  | _, _, .nil, _ => .nil
  | _, _, .cons (r := r) h q, e => by
    cases r with
    | dat d => exact .cons h (args_one ha q e)
    | cel j =>
      have ej := e j List.mem_cons_self
      subst ej
      obtain ⟨b, h1, h2⟩ := h
      rw [ha] at h1
      cases h1
      exact .cons ⟨a, rfl, h2⟩ (args_one ha q fun i hi => e i (List.mem_cons_of_mem _ hi))
    | no => exact h.elim
    | fr xs => exact h.elim
    | fc c => exact h.elim
theorem cell_some {F H : Hp} {α : List Addr} {μ : Mu} (C : Conc K cl F α μ H) {a : Addr} (h : a ∈ α) : ∃ u, H a = some u := by
  obtain ⟨k, hk, ek⟩ := List.mem_iff_getElem.mp h
  have hk2 : k < μ.length := by rw [← C.len]; exact hk
  exact (C.cell k a μ[k] (by rw [List.getElem?_eq_getElem hk, ek]) (List.getElem?_eq_getElem hk2)).some
theorem CellOk.low0 {F : Hp} {α : List Addr} {a : Addr} {o : Option HO} {c : Cel} (h : CellOk K cl F α a o c) (q : c.low 0 = true) (β : List Addr) : CellOk K cl F β a o c := by
  have h1 : CellOk K cl F ([] ++ α) a o c := h
  exact (h1.cut q).mono (Same.refl F) ⟨β, rfl⟩
theorem RepR.plain {F H H0 : Hp} {α β : List Addr} {v : V} {r : R} (h : RepR K cl H0 F β H v r) (hp : plainR r = true) (nw : ∀ a, H0 a = none → a ∉ α) : RepR K cl H0 F α H v r := by
  cases r with
  | dat d => exact h
  | fr xs =>
    obtain ⟨a, us, g1, g2, g3, g4, g5, g6⟩ := h
    exact ⟨a, us, g1, g2, g3, nw a g2, g5, g6⟩
  | fc c =>
    obtain ⟨a, g1, g2, g3, g4, g5⟩ := h
    exact ⟨a, g1, g2, g3, nw a g2, g5.low0 hp α⟩
  | no => cases hp
  | cel j => cases hp
theorem out_stays {F H F' H' : Hp} {α β : List Addr} {μ : Mu} (C : Conc K cl F α μ H) (e : Evo F β H F' β H') {b : Addr} (hb : b ∈ α) : F' b = none := by
  cases q : F' b with
  | none => rfl
  | some o =>
    obtain ⟨vs, h⟩ := cell_some C hb
    have := e.fre b o (C.out b hb) q
    rw [h] at this
    cases this
theorem callX_sp {n : Nat} {f : MF} {vs : List V} {H : Hp} {Q : VK} {E : XK} (h : spM K cl n (callX f) vs H Q E) : spM K cl n f vs H Q E := by
  obtain ⟨F, α, μ, rs, r, μ', hl, C, ha, hm, k⟩ := h
  unfold callX at hm
  split at hm
  · rename_i e0
    split at hm
    · rename_i r1 h1
      split at hm
      · rename_i hp
        cases hm
        refine ⟨F, [], [], rs, r, [], hl, ⟨C.sub, rfl, List.nodup_nil, fun _ _ _ h => by simp at h, fun _ h => by simp at h⟩, args_none ha e0, h1, fun v F' H' e c q => ?_⟩
        refine k v F' H' ⟨e.ff, ⟨[], by simp⟩, fun b o hb _ => e.hh b o hb (by simp), e.dom, e.fre, fun b hb z => absurd hb z, e.frz⟩ ⟨c.sub, C.len, C.nd, fun j b xs q1 q2 => ?_, fun b hb => out_stays C e hb⟩ ?_
        · have g := C.cell j b xs q1 q2
          obtain ⟨u, g1⟩ := g.some
          rw [e.hh b _ g1 (by simp), ← g1]
          exact g.monoF e.ff
        · exact q.plain hp fun a ha z => by
            obtain ⟨ws, g7⟩ := cell_some C z
            rw [ha] at g7
            cases g7
      · cases hm
    · cases hm
  · rename_i j e0
    split at hm
    · rename_i xs e1
      split at hm
      rotate_left
      · cases hm
      rename_i hlow
      split at hm
      · rename_i r1 ys h1
        split at hm
        · rename_i hp
          obtain ⟨hp, hlow2⟩ := hp
          cases hm
          have hj : j < α.length := by rw [C.len]; exact (List.getElem?_eq_some_iff.mp e1).1
          have ja : α[j]? = some α[j] := List.getElem?_eq_getElem hj
          have jin : α[j] ∈ α := List.getElem_mem hj
          refine ⟨F, [α[j]], [xs], reCel rs, r, [ys], hl, ⟨C.sub, rfl, by simp, fun i b zs q1 q2 => ?_, fun b hb => ?_⟩, args_one ja ha (fun i hi => by rw [e0] at hi; simpa using hi), h1, fun v F' H' e c q => ?_⟩
          · cases i with
            | zero =>
              simp at q1 q2
              subst q1 q2
              exact (C.cell j _ xs ja e1).low0 hlow _
            | succ i => simp at q1
          · rw [List.mem_singleton.mp hb]
            exact C.out _ jin
          · have new : ∀ b, H b = none → b ∉ α := fun b hb z => by
              obtain ⟨ws, g7⟩ := cell_some C z
              rw [hb] at g7
              cases g7
            refine k v F' H' ⟨e.ff, ⟨[], by simp⟩, fun b o hb nb => e.hh b o hb (fun z => nb (by rw [List.mem_singleton.mp z]; exact jin)), e.dom, e.fre, fun b hb z => absurd hb z, e.frz⟩ ⟨c.sub, by simp [C.len], C.nd, fun i b zs q1 q2 => ?_, fun b hb => out_stays C e hb⟩ ?_
            · by_cases hij : j = i
              · subst hij
                rw [ja] at q1
                cases q1
                rw [List.getElem?_set_self (by rw [← C.len]; exact hj)] at q2
                cases q2
                exact (c.cell 0 _ _ rfl rfl).low0 hlow2 α
              · rw [List.getElem?_set_ne hij] at q2
                have g := C.cell i b zs q1 q2
                obtain ⟨u, g1⟩ := g.some
                rw [e.hh b _ g1 (fun z => hij ?_), ← g1]
                · exact g.monoF e.ff
                · rw [List.mem_singleton.mp z] at q1
                  exact nd_ix C.nd ja q1
            · exact q.plain hp new
        · cases hm
      · cases hm
    · cases hm
  · cases hm
theorem reCel_length : ∀ rs : List R, (reCel rs).length = rs.length
  | [] => rfl
  | .cel _ :: rs => congrArg (· + 1) (reCel_length rs)
  | .dat _ :: rs => congrArg (· + 1) (reCel_length rs)
  | .no :: rs => congrArg (· + 1) (reCel_length rs)
  | .fr _ :: rs => congrArg (· + 1) (reCel_length rs)
  | .fc _ :: rs => congrArg (· + 1) (reCel_length rs)
theorem callX_ar {n : Nat} {f : MF} (ar : ∀ rs μ z, f rs μ = some z → rs.length = n) : ∀ rs μ z, callX f rs μ = some z → rs.length = n := fun rs μ z h => by
  unfold callX at h
  split at h
  · split at h
    · rename_i r1 h1
      exact ar _ _ _ h1
    · cases h
  · split at h
    · split at h
      · split at h
        · rename_i r1 ys h1
          rw [← reCel_length]
          exact ar _ _ _ h1
        · cases h
      · cases h
    · cases h
  · cases h
theorem FS.x {P : Program} {w : World} {mg : Str → Option Value} {base : Heap} {k : Nat} {x : Str} {n : Nat} {m : MF} (S : FS P w K mg base cl k x n m) : FS P w K mg base cl k x n (callX m) := by
  obtain ⟨⟨f, fd, ps, F, h⟩, ar⟩ := S
  exact ⟨⟨f, fd, ps, F.imp fun vs H Q E h => callX_sp h, h⟩, callX_ar ar⟩
theorem FK.x {P : Program} {w : World} {mg : Str → Option Value} {base : Heap} {k : Nat} {x : Str} {n : Nat} {m : MF} {np : Nat} {ks : List Str} {is : List Nat} (S : FK P w K mg base cl k x n m np ks is) : FK P w K mg base cl k x n (callX m) np ks is := by
  obtain ⟨⟨f, fd, ps, F, h⟩, ar⟩ := S
  exact ⟨⟨f, fd, ps, F.imp fun vs H Q E h => callX_sp h, h⟩, callX_ar ar⟩
/-- f(e), e a new list that f may change -/
@[simp] def mCall1 (f : MF) (m : ME) : ME := fun δ μ => match m δ μ with
  | some (.fr xs, μ1) => match f [.cel 0] [.l xs] with
    | some (r, [_]) => if plainR r = true then some (r, μ1) else none
    | _ => none
  | _ => none
variable {X : Cx} {e : Expr} {es : List Expr} {pos p : Pos} {k j n : Nat} {x : Str} {mf : MF} {ms : MA} {m : ME}
theorem se_call1 (S : FS X.prog X.w X.K X.mg X.base cl k x 1 mf) (hr : Room j X.A) (hk : k ≤ j) (ha : SE X cl e m) (hg : Gl X x := by rfl) (hdb : (x == ("__debug__" : Str)) = false := by decide) (he : starEach (e :: []) X.env = (false, eval e X.env) :: starEach [] X.env := by rfl) (hpl : (backTo pos (starEach [] X.env)).any (·.1) = false := by rfl) :
    SE X cl (.Call (.Name x p) [e] [] pos) (mCall1 mf m) := by
  obtain ⟨f, fd, ps, F, hm, hkp, hb, _⟩ := S.ok
  refine PE.weak (pe_call F (hr.mono hk) hg hm hkp hb .nil pass0 (pa_cons ha pa_nil he) hdb he hpl) fun σ H Q ⟨F, α, δ, μ, z, μ', C, Ee, hm, k⟩ => ?_
  unfold mCall1 at hm
  split at hm
  · rename_i xs μ1 h1
    split at hm
    · rename_i r ys h2
      split at hm
      · rename_i hp
        cases hm
        refine ⟨F, α, δ, μ, _, μ', C, Ee, h1, fun v F1 H1 e1 c1 q1 => ?_⟩
        obtain ⟨a, us, g1, g2, g3, g4, g5, g6⟩ := q1
        subst g1
        refine ⟨F1, [a], [.l xs], [.cel 0], z, [ys], rfl, ⟨c1.sub, rfl, by simp, fun i b zs q1 q2 => ?_, fun b hb => by rw [List.mem_singleton.mp hb]; exact g3⟩, .cons ⟨a, rfl, rfl⟩ .nil, h2, fun v F' H' e c q => ?_⟩
        · cases i with
          | zero =>
            simp at q1 q2
            subst q1 q2
            exact ⟨us, g5, g6⟩
          | succ i => simp at q1
        · have e' : Evo F1 α H1 F' α H' → True := fun _ => trivial
          have ev : Evo F α H F' α H' := by
            refine ⟨e1.ff.trans e.ff, ⟨[], by simp⟩, fun b o hb nb => e.hh b o (e1.hh b o hb nb) (fun z => ?_), fun b hb => e1.dom b (e.dom b hb), fun b o hb hq => ?_, fun b hb z => absurd hb z, fun b x u h => e.frz b x u (e1.frz b x u h)⟩
            · rw [List.mem_singleton.mp z, g2] at hb
              cases hb
            · cases e3 : F1 b with
              | none => exact e1.dom b (e.fre b o e3 hq)
              | some u => exact e1.fre b u hb e3
          refine k v F' H' ev ⟨c.sub, c1.len, c1.nd, fun i b zs q1 q2 => ?_, fun b hb => out_stays c1 e hb⟩ ?_
          · have l := c1.cell i b zs q1 q2
            obtain ⟨u, l1⟩ := l.some
            rw [e.hh b _ l1 (fun z => g4 ?_), ← l1]
            · exact l.monoF e.ff
            · rw [← List.mem_singleton.mp z]
              exact List.mem_of_getElem? q1
          · exact (q.plain hp fun a ha z => by
              obtain ⟨ws, l7⟩ := cell_some c1 z
              rw [ha] at l7
              cases l7).back e1.dom
      · cases hm
    · cases hm
  · cases hm
end
end DL
set_option Elab.async false
set_option linter.all false
set_option maxRecDepth 100000
set_option maxHeartbeats 1000000

namespace DL
open PySem PySem.Spec PyProof.Rows L2
/-- the class number c has the slots fs -/
structure ClS (K : PySem.W.Frag) (cl : Nat → Addr) (c : Nat) (fs : List Str) : Prop where
  s : SlX.SCls K (cl c)
  sl : ∀ (i : Nat) (f : Str), fs[i]? = some f → ∃ p, SlX.Slot1 K (cl c) f p i
/-- the def at f -/
structure FA (P : Program) (w : World) (K : PySem.W.Frag) (mg : Str → Option Value) (base : Heap) (cl : Nat → Addr) (k : Nat) (f : Addr) (n : Nat) (m : MF) : Prop where
  ok : FnR P w K mg base CX0 k f (spM K cl n m)
  kp : PySem.W.keepIn K (.ref f) = true
  ar : ∀ rs μ z, m rs μ = some z → rs.length = n
section
variable {X : Cx} {cl : Nat → Addr} {e o a b c tg : Expr} {es : List Expr} {m mo ma mb mc : ME} {ms : MA} {pos p apos : Pos} {K : PySem.W.Frag} {f g : Addr} {n k j : Nat} {mf : MF} {P : Program} {w : World} {mg : Str → Option Value} {base : Heap}
theorem FA.x (S : FA P w K mg base cl k f n mf) : FA P w K mg base cl k f n (callX mf) := ⟨S.ok.imp fun vs H Q E h => callX_sp h, S.kp, callX_ar S.ar⟩
theorem FA.raw (S : FA P w K mg base cl k f n mf) : FnR P w K mg base CX0 k f (spM K cl n mf) := S.ok
theorem FA.of {fd : FuncData} {ps : List Str} (F : FnOk P w K mg base CX0 k f fd ps (spM K cl n mf)) (hb : Binds K fd ps []) (kp : PySem.W.keepIn K (.ref f) = true) (ar : ∀ rs μ z, mf rs μ = some z → rs.length = n) : FA P w K mg base cl k f n mf :=
  ⟨(FnOk.raw F hb .nil).imp fun vs H Q E h => by rw [List.append_nil]; exact h, kp, ar⟩
/-- the last parameters have their defaults -/
@[simp] def mDfl (f : MF) (ds : List D) : MF := fun rs μ => f (rs ++ ds.map R.dat) μ
theorem reps_args {F : Hp} {α : List Addr} : ∀ {vs : List V} {ds : List D}, Reps K cl F vs ds → ArgRs K cl F α vs (ds.map R.dat)
  | _, _, .nil => .nil
  | _, _, .cons r q => .cons r (reps_args q)
@[simp] def mAttr (c i : Nat) (m : ME) : ME := fun δ μ => match m δ μ with
  | some (.dat (.ins c' xs), μ1) => if c' = c then match xs[i]? with
      | some d => some (.dat d, μ1)
      | none => none
    else none
  | _ => none
theorem se_attr {c i : Nat} {x : Str} {fs : List Str} (S : ClS X.K cl c fs) (h : SE X cl e m) (hi : fs[i]? = some x := by rfl) (hb : attributeBase e x X.env (eval e X.env) = eval e X.env := by rfl) : SE X cl (.Attribute e x pos) (mAttr c i m) := by
  refine PE.weak (SlX.pe_sl h hb) fun σ H Q ⟨F, α, δ, μ, z, μ', C, Ee, hm, k⟩ => ?_
  unfold mAttr at hm
  split at hm
  · rename_i c' xs μ1 h1
    split at hm
    · rename_i hc
      split at hm
      · rename_i d hd
        cases hm
        refine ⟨F, α, δ, μ, _, _, C, Ee, h1, fun v F1 H1 e1 c1 q1 => ?_⟩
        subst hc
        cases q1 with
        | ins hs hq hr =>
          obtain ⟨v', hv, rv⟩ := hr.get hd
          obtain ⟨p, hp⟩ := S.sl i x hi
          exact ⟨_, _, _, p, _, i, v', rfl, Same.slt c1.sub hs, S.s, hp, by rw [List.getElem?_map, hv]; rfl, k v' F1 H1 e1 c1 rv⟩
      · cases hm
    · cases hm
  · cases hm

@[simp] def mMeth (c : Nat) (f : MF) (mo : ME) (ms : MA) : ME := fun δ μ => match mo δ μ with
  | some (.dat (.ins c' xs), μ1) => if c' = c then match ms δ μ1 with
      | some (rs, μ2) => f (.dat (.ins c' xs) :: rs) μ2
      | none => none
    else none
  | _ => none
structure FM (P : Program) (w : World) (K : PySem.W.Frag) (mg : Str → Option Value) (base : Heap) (cl : Nat → Addr) (k c : Nat) (x : Str) (n : Nat) (m : MF) : Prop where
  s : SlX.SCls K (cl c)
  ok : ∃ f, Meth K (cl c) x f ∧ FA P w K mg base cl k f n m
theorem FM.x {c : Nat} {x : Str} (S : FM P w K mg base cl k c x n mf) : FM P w K mg base cl k c x n (callX mf) := by
  obtain ⟨s, f, h1, h2⟩ := S
  exact ⟨s, f, h1, h2.x⟩
theorem meth_imp {c : Nat} (ar : ∀ rs μ z, mf rs μ = some z → rs.length = n) : ∀ σ H Q, tm K cl (mMeth c mf mo ms) σ H Q → SlX.tMethSl (cl c) (spM K cl n mf) E0 (tm K cl mo) (tma K cl ms) σ H Q := fun σ H Q ⟨F, α, δ, μ, z, μ', C, Ee, hm, k⟩ => by
  unfold mMeth at hm
  split at hm
  · rename_i c' xs μ1 h1
    split at hm
    · rename_i hc
      split at hm
      · rename_i rs μ2 h2
        subst hc
        refine ⟨F, α, δ, μ, _, _, C, Ee, h1, fun v F1 H1 e1 c1 q1 => ?_⟩
        cases q1 with
        | ins hs hq hr =>
          refine ⟨_, _, _, rfl, Same.slt c1.sub hs, F1, α, δ, μ1, rs, μ2, c1, Ee.step e1, h2, fun vs F2 H2 e2 c2 q2 => ?_⟩
          have r0 : Rep K cl F2 _ (.ins c' xs) := Rep.mono e2.ff (.ins hs hq hr)
          have hl := q2.length
          refine ⟨F2, α, μ2, .dat (.ins c' xs) :: rs, z, μ', ?_, c2, .cons r0 q2, hm, fun v F3 H3 e3 c3 r3 => k v F3 H3 ((e1.trans e2).trans e3) c3 (r3.back (e1.trans e2).dom)⟩
          rw [List.length_cons, hl]
          exact ar _ _ _ hm
      · cases hm
    · cases hm
  · cases hm
theorem se_meth {c : Nat} {x : Str} {pl : Sem Bool} (S : FM X.prog X.w X.K X.mg X.base cl k c x n mf) (hr : Room j X.A) (hk : k ≤ j) (ho : SE X cl o mo) (ha : SA X cl (e :: es) ms)
    (hst : starEach (e :: es) X.env = (false, eval e X.env) :: starEach es X.env := by rfl) (hpl : (backTo pos (starEach es X.env)).any (·.1) = false := by rfl)
    (ht : eval (.Call (.Attribute o x apos) (e :: es) [] pos) X.env = (do
      let ov ← eval o X.env
      standAt apos.atName
      let (f, first) ← holding [ov] (getMethod ov x pl)
      callWith pos f first (backTo pos (starEach (e :: es) X.env)) (backToKw pos (keywordEach [] X.env))) := by rfl) :
    SE X cl (.Call (.Attribute o x apos) (e :: es) [] pos) (mMeth c mf mo ms) := by
  obtain ⟨s, f, h1, h2⟩ := S
  exact PE.weak (SlX.pe_methSl (pl := pl) ho s h1 h2.raw (hr.mono hk) pass0 ha hst hpl ht) (meth_imp h2.ar)
end
end DL
set_option Elab.async false
set_option linter.all false
set_option maxRecDepth 100000
set_option maxHeartbeats 1000000
namespace DL
open PySem PySem.Spec PyProof.Rows L2
/-- C.x is a static method, its def at g -/
structure SMet (K : PySem.W.Frag) (C : Addr) (x : Str) (g : Addr) : Prop where
  ok : ∃ (mc : Value) (p : Addr) (rest : List Value), PySem.W.readsIn K C mc = true ∧ PySem.W.specialIn K (.ref C) "__getattribute__" = some (some (.builtin "type.__getattribute__")) ∧
    PySem.W.findCls K (.ref C) mc x = some (.get (.builtin "staticmethod.__get__") (.ref p) .none (.ref C)) ∧ PySem.W.recIn K p "staticmethod" = some (.ref g :: rest)
section
variable {X : Cx} {cl : Nat → Addr} {e o a b c tg : Expr} {es : List Expr} {m mo ma mb mc : ME} {ms : MA} {pos p apos : Pos} {K : PySem.W.Frag} {f g C : Addr} {n k j : Nat} {mf : MF} {P : Program} {w : World} {mg : Str → Option Value} {base : Heap} {x y : Str} {sp : Sp} {t : TA} {CX : CXT} {E : XK}
structure FT (P : Program) (w : World) (K : PySem.W.Frag) (mg : Str → Option Value) (base : Heap) (cl : Nat → Addr) (k : Nat) (x y : Str) (n : Nat) (m : MF) : Prop where
  ok : ∃ C g, mg x = some (.ref C) ∧ SMet K C y g ∧ FA P w K mg base cl k g n m
@[simp] def flat1 : D → Bool
  | .non => true
  | .bl _ => true
  | .int _ => true
  | .str _ => true
  | _ => false
@[simp] def eqF : D → D → Bool
  | .non, .non => true
  | .bl a, .bl b => a == b
  | .bl a, .int b => (if a then 1 else 0) == b
  | .int a, .bl b => a == (if b then 1 else 0)
  | .int a, .int b => a == b
  | .str a, .str b => a == b
  | _, _ => false
theorem flat_rep {F : Hp} {v : V} {d : D} (h : Rep K cl F v d) (f : flat1 d = true) : flatV v = true := by
  cases h <;> first | rfl | cases f
theorem eq_rep {F : Hp} {v u : V} {d d' : D} (h : Rep K cl F v d) (h' : Rep K cl F u d') : flat1 d = true → flat1 d' = true → eqV v u = eqF d d' := by
  intro f f'
  cases h <;> (cases h' <;> first | rfl | exact absurd f Bool.false_ne_true | exact absurd f' Bool.false_ne_true)
theorem flats_rep {F : Hp} : ∀ {vs : List V} {ds : List D}, Reps K cl F vs ds → ds.all flat1 = true → vs.all flatV = true
  | _, _, .nil, _ => rfl
  | _, _, .cons r q, h => by
    rw [List.all_cons, Bool.and_eq_true] at h ⊢
    exact ⟨flat_rep r h.1, flats_rep q h.2⟩
theorem in_rep {F : Hp} {v : V} {d : D} (h : Rep K cl F v d) (f : flat1 d = true) : ∀ {vs : List V} {ds : List D}, Reps K cl F vs ds → ds.all flat1 = true → inV v vs = ds.any fun y => eqF y d
  | _, _, .nil, _ => rfl
  | _, _, .cons r q, hs => by
    rw [List.all_cons, Bool.and_eq_true] at hs
    unfold inV
    rw [List.any_cons, List.any_cons, eq_rep r h hs.1 f]
    exact congrArg _ (in_rep h f q hs.2)
@[simp] def fIn (neg : Bool) : R → R → Mu → Option R
  | .dat d, y, μ => match sqOf y μ with
    | some q => if flat1 d && q.all.all flat1 then some (.dat (.bl (if neg then !(q.all.any fun y => eqF y d) else q.all.any fun y => eqF y d))) else none
    | none => none
  | _, _, _ => none
theorem sem_in {neg : Bool} : OpSem K cl (rIn K neg) (fIn neg) := by
  intro F α μ H H0 x y rx ry z Q C h1 h2 hz k
  unfold fIn at hz
  split at hz
  · rename_i d
    split at hz
    · rename_i q e1
      split at hz
      · rename_i hf
        rw [Bool.and_eq_true] at hf
        cases hz
        obtain ⟨ad, vs, rfl, q1, q2⟩ := sqOf_ok C h2 e1
        have h1 : Rep K cl F x d := h1
        have e2 := in_rep h1 hf.1 q1 hf.2
        refine ⟨ad, vs, rfl, ?_, flat_rep h1 hf.1, flats_rep q1 hf.2, ?_⟩
        · cases q with
          | l xs => exact .inl q2
          | t xs => exact .inr q2
        · rw [e2]
          exact k _ F H Evo.refl C (.bl _)
      · cases hz
    · cases hz
  · cases hz
theorem st_in (ha : SE X cl a ma) (hb : SE X cl b mb) (hm : behindInMarks .In b = false := by rfl) : ST X cl (.Compare a [.In] [b] pos) (mB (mOp (fIn false) ma mb)) := st_cmp op_in_seq sem_in ha hb hm
@[simp] def mStar (m : ME) (ms : MA) : MA := fun δ μ => match m δ μ with
  | none => none
  | some (r, μ1) => match sqOf (froz r) μ1 with
    | none => none
    | some q => match ms δ μ1 with
      | none => none
      | some (rs, μ2) => some (q.all.map R.dat ++ rs, μ2)
end
theorem FT.x {P : Program} {w : World} {K : PySem.W.Frag} {mg : Str → Option Value} {base : Heap} {cl : Nat → Addr} {k n : Nat} {cn fn : Str} {mf : MF} (S : FT P w K mg base cl k cn fn n mf) : FT P w K mg base cl k cn fn n (callX mf) := by
  obtain ⟨C, g, h0, h1, h2⟩ := S
  exact ⟨C, g, h0, h1, h2.x⟩
end DL
set_option Elab.async false
set_option linter.all false
set_option maxRecDepth 100000
set_option maxHeartbeats 1000000

namespace DL
open PySem PySem.Spec PyProof.Rows L2
section
variable {X : Cx} {cl : Nat → Addr} {e o a b c tg : Expr} {es : List Expr} {m mo ma mb mc : ME} {ms : MA} {pos p apos : Pos} {K : PySem.W.Frag} {f g C x dx : Addr} {n k j i : Nat} {mf : MF} {P : Program} {w : World} {mg : Str → Option Value} {base : Heap} {F0 F F1 H0 H H1 : Hp} {α : List Addr} {μ μ1 : Mu} {v : V} {d : D}
def PRel (K : PySem.W.Frag) (cl : Nat → Addr) (F : Hp) (vs : List (Option V)) (pd : List (Option D)) : Prop := vs.length = pd.length ∧ ∀ (i : Nat) (d : D), pd[i]? = some (some d) → ∃ v, vs[i]? = some (some v) ∧ Rep K cl F v d
def putD (i : Nat) (d : D) (pd : List (Option D)) : List (Option D) := (pd ++ List.replicate (i + 1 - pd.length) none).set i (some d)
theorem putD_get {pd : List (Option D)} {j : Nat} : (putD i d pd)[j]? = if i = j then some (some d) else (pd ++ List.replicate (i + 1 - pd.length) none)[j]? := by
  unfold putD
  rw [List.getElem?_set]
  have hl : i < (pd ++ List.replicate (i + 1 - pd.length) none).length := by
    rw [List.length_append, List.length_replicate]
    omega
  rw [if_pos hl]
theorem PRel.mono {vs : List (Option V)} {pd : List (Option D)} (h : PRel K cl F vs pd) (s : Same F F1) : PRel K cl F1 vs pd := ⟨h.1, fun i d q => by
  obtain ⟨v, h1, h2⟩ := h.2 i d q
  exact ⟨v, h1, h2.mono s⟩⟩
theorem PRel.put {vs : List (Option V)} {pd : List (Option D)} (h : PRel K cl F vs pd) (i : Nat) (r : Rep K cl F v d) : PRel K cl F (SlX.putS i v vs) (putD i d pd) := by
  refine ⟨?_, fun j d' q => ?_⟩
  · unfold SlX.putS putD
    simp only [List.length_set, List.length_append, List.length_replicate, h.1]
  · by_cases hj : i = j
    · subst hj
      rw [putD_get, if_pos rfl] at q
      cases q
      exact ⟨v, SlX.putS_get i v vs, r⟩
    · rw [putD_get, if_neg hj] at q
      have q2 : pd[j]? = some (some d') := by
        by_cases hl : j < pd.length
        · rw [List.getElem?_append_left hl] at q
          exact q
        · rw [List.getElem?_append_right (by omega), List.getElem?_replicate] at q
          split at q
          · cases q
          · cases q
      obtain ⟨v', h1, h2⟩ := h.2 j d' q2
      exact ⟨v', (SlX.putS_ne (fun z => hj z.symm)).mpr h1, h2⟩
structure Bd (C x dx : Addr) (H0 F0 : Hp) (α : List Addr) (F H : Hp) (vs : List (Option V)) : Prop where
  ev : Evo F0 α H0 F α H
  sl : SlX.Slt H x C dx vs
  fx : F x = none
  fd : F dx = none
  ax : x ∉ α
  ad : dx ∉ α
  ne : dx ≠ x
  ox : H0 x = none
  od : H0 dx = none
  hd : ∃ u, H dx = some u
theorem slt_some {vs : List (Option V)} (h : SlX.Slt H x C dx vs) : ∃ u, H x = some u := by
  rcases h with ⟨h, _⟩ | ⟨h, _⟩
  · exact ⟨_, h⟩
  · exact ⟨_, h⟩
theorem Bd.step {vs : List (Option V)} (h : Bd C x dx H0 F0 α F H vs) (e : Evo F α H F1 α H1) : Bd C x dx H0 F0 α F1 H1 vs := by
  obtain ⟨u, hu⟩ := slt_some h.sl
  obtain ⟨u', hu'⟩ := h.hd
  refine ⟨h.ev.trans e, ?_, ?_, ?_, h.ax, h.ad, h.ne, h.ox, h.od, u', e.hh dx _ hu' h.ad⟩
  · rcases h.sl with ⟨h1, h2⟩ | ⟨h1, h2⟩
    · exact .inl ⟨e.hh x _ h1 h.ax, h2⟩
    · exact .inr ⟨e.hh x _ h1 h.ax, e.hh dx _ h2 h.ad⟩
  · cases q : F1 x with
    | none => rfl
    | some o =>
      have := e.fre x o h.fx q
      rw [hu] at this
      cases this
  · cases q : F1 dx with
    | none => rfl
    | some o =>
      have := e.fre dx o h.fd q
      rw [hu'] at this
      cases this
theorem slH_d {vs : List (Option V)} (h : dx ≠ x) : SlX.slH H x C dx vs dx = some (.xd []) := by
  unfold SlX.slH
  rw [upd_ne h, upd_same]
theorem Bd.put {vs : List (Option V)} (h : Bd C x dx H0 F0 α F H vs) (c : Conc K cl F α μ H) (ws : List (Option V)) : Bd C x dx H0 F0 α F (SlX.slH H x C dx ws) ws ∧ Conc K cl F α μ (SlX.slH H x C dx ws) := by
  refine ⟨⟨⟨h.ev.ff, h.ev.ext, fun a o q1 q2 => ?_, fun a q => ?_, h.ev.fre, h.ev.fra, fun a o u q => by rw [SlX.slH_ne (fun z => by have q' := h.ev.dom a; rw [z, h.ox] at q; cases q) (fun z => by rw [z, h.od] at q; cases q)]; exact h.ev.frz a o u q⟩, SlX.slH_slt h.ne, h.fx, h.fd, h.ax, h.ad, h.ne, h.ox, h.od, _, slH_d h.ne⟩, ⟨fun a o q => ?_, c.len, c.nd, fun k a xs q1 q2 => ?_, c.out⟩⟩
  · rw [SlX.slH_ne (fun z => by rw [z, h.ox] at q1; cases q1) (fun z => by rw [z, h.od] at q1; cases q1)]
    exact h.ev.hh a o q1 q2
  · by_cases z : a = x
    · rw [z]
      exact h.ox
    · by_cases z2 : a = dx
      · rw [z2]
        exact h.od
      · rw [SlX.slH_ne z z2] at q
        exact h.ev.dom a q
  · rw [SlX.slH_ne (fun z => by rw [z, h.fx] at q; cases q) (fun z => by rw [z, h.fd] at q; cases q)]
    exact c.sub a o q
  · have ha : a ∈ α := List.mem_of_getElem? q1
    rw [SlX.slH_ne (fun z => h.ax (by rw [← z]; exact ha)) (fun z => h.ad (by rw [← z]; exact ha))]
    exact c.cell k a xs q1 q2

abbrev MB := Sl → Mu → List (Option D) → Option (Mu × List (Option D))
def tmb (K : PySem.W.Frag) (cl : Nat → Addr) (C : Addr) (mb : MB) : TS := fun E σ H => ∃ H0 F0 F α δ μ x dx vs pd μ' pd', Conc K cl F α μ H ∧ EnvOk K cl F α σ δ ∧ σ[0]? = some (some (.ref x)) ∧ Bd C x dx H0 F0 α F H vs ∧ PRel K cl F vs pd ∧ mb δ μ pd = some (μ', pd') ∧
  ∀ F' H' vs', Conc K cl F' α μ' H' → EnvOk K cl F' α σ δ → Bd C x dx H0 F0 α F' H' vs' → PRel K cl F' vs' pd' → E.nx σ H'
abbrev SB (X : Cx) (cl : Nat → Addr) (c : Nat) (st : Stmt) (mb : MB) : Prop := PS X st (tmb X.K cl (cl c) mb)
abbrev SBs (X : Cx) (cl : Nat → Addr) (c : Nat) (st : List Stmt) (mb : MB) : Prop := PSs X st (tmb X.K cl (cl c) mb)
@[simp] def mbSeq (m1 m2 : MB) : MB := fun δ μ pd => match m1 δ μ pd with
  | some (μ1, pd1) => m2 δ μ1 pd1
  | none => none
theorem sbs_one {c : Nat} {st : Stmt} {m1 : MB} (h : SB X cl c st m1) : SBs X cl c [st] m1 := pss_one h
@[simp] def mbSet (i : Nat) (m : ME) : MB := fun δ μ pd => match m δ μ with
  | some (r, μ1) => match toD r with
    | some d => some (μ1, putD i d pd)
    | none => none
  | none => none
end
end DL
set_option Elab.async false
set_option linter.all false
set_option maxRecDepth 100000
set_option maxHeartbeats 1000000
namespace DL
open PySem PySem.Spec PyProof.Rows L2
section
variable {X : Cx} {cl : Nat → Addr} {e o a b c tg : Expr} {es : List Expr} {m mo ma mb mc : ME} {ms : MA} {pos p apos : Pos} {K : PySem.W.Frag} {f g C x dx : Addr} {n k j i : Nat} {mf : MF} {P : Program} {w : World} {mg : Str → Option Value} {base : Heap} {F0 F F1 H0 H H1 : Hp} {α : List Addr} {μ μ1 : Mu} {v : V} {d : D}
/-- self.y as a target -/
def gSl (K : PySem.W.Frag) (to : TE) (y : Str) : TG := fun v σ H Q => to σ H fun z H1 => ∃ a C dx p vs i, z = .ref a ∧ SlX.Slt H1 a C dx vs ∧ SlX.SCls K C ∧ SlX.Slot1 K C y p i ∧ Q σ (SlX.slH H1 a C dx (SlX.putS i v vs))
theorem pg_sl {to : TE} {y : Str} (ho : PE X o to) (ha : ∀ v, assign (.Attribute o y pos) X.env v = (do
      let ov ← holding [v] (eval o X.env)
      standAt pos.atName
      holding [v, ov] (setAttr ov y v)
      release [v, ov] []) := by intro _; rfl) : PG X (.Attribute o y pos) (gSl X.K to y) := by
  refine ⟨fun pins s σ H v u Q I r h => ?_⟩
  rw [ha]
  refine wpAny_bind (wpAny_holding (thn (ho.run pins s σ H _ I h) fun ov s1 ⟨z, H1, I1, r1, a, C, dx, p, vs, i, ez, hsl, c, t, q⟩ => ?_))
  subst ez
  obtain rfl : ov = Value.ref a := r1
  refine wpAny_bind (wpAny_standAt (wpAny_bind (wpAny_holding (SlX.setslot_ok I1 hsl c t r fun s3 I3 => ?_))))
  exact wpAny_release ⟨σ, _, I3, q⟩
def putDs : List Nat → List D → List (Option D) → Option (List (Option D))
  | [], [], pd => some pd
  | i :: is, d :: ds, pd => putDs is ds (putD i d pd)
  | _, _, _ => none
/-- the targets ts, stored one after another, are the fields is -/
def GsOk (X : Cx) (cl : Nat → Addr) (c : Nat) (ts : List Expr) (g : TGs) (is : List Nat) : Prop := PGs X ts g ∧ ∀ (ds : List D) (us : List V) (σ : L2.St) (H H0 F0 F : Hp) (α : List Addr) (μ : Mu) (x dx : Addr) (vs : List (Option V)) (pd pd' : List (Option D)) (Q : L2.St → Hp → Prop),
  Conc X.K cl F α μ H → σ[0]? = some (some (.ref x)) → Bd (cl c) x dx H0 F0 α F H vs → PRel X.K cl F vs pd → Reps X.K cl F us ds → putDs is ds pd = some pd' →
  (∀ H' vs', Conc X.K cl F α μ H' → Bd (cl c) x dx H0 F0 α F H' vs' → PRel X.K cl F vs' pd' → Q σ H') → g us σ H Q
theorem gs_nil {c : Nat} : GsOk X cl c [] gNil [] := by
  refine ⟨pgs_nil, fun ds us σ H H0 F0 F α μ x dx vs pd pd' Q C hs B R r hp k => ?_⟩
  cases r with
  | nil =>
    cases hp
    exact ⟨rfl, k H vs C B R⟩
  | cons _ _ => cases hp
theorem gs_cons {c i : Nat} {fs : List Str} {y self : Str} {p1 p2 : Pos} {ts : List Expr} {g : TGs} {is : List Nat} (S : ClS X.K cl c fs) (h : GsOk X cl c ts g is) (hi : fs[i]? = some y := by rfl) (hN : X.N[0]? = some self := by rfl)
    (hv : Vis X.env.scope self := by first | exact Or.inl rfl | exact Or.inr (Or.inl rfl) | exact Or.inr (Or.inr rfl)) (hd : (self == ("__debug__" : Str)) = false := by decide) (hcd : (self == ("__classdict__" : Str)) = false := by decide)
    (hs : (assignEach (.Attribute (.Name self p1) y p2 :: ts) X.env).map (·.2) = assign (.Attribute (.Name self p1) y p2) X.env :: (assignEach ts X.env).map (·.2) := by rfl) :
    GsOk X cl c (.Attribute (.Name self p1) y p2 :: ts) (gCons (gSl X.K (tVar 0) y) g) (i :: is) := by
  refine ⟨pgs_cons (pg_sl (pe_var hN hv hd hcd)) h.1 hs, fun ds us σ H H0 F0 F α μ x dx vs pd pd' Q C hs B R r hp k => ?_⟩
  cases r with
  | nil => cases hp
  | cons r q =>
    obtain ⟨p, hpp⟩ := S.sl i y hi
    obtain ⟨B3, c3⟩ := B.put C (SlX.putS i _ vs)
    exact ⟨_, _, rfl, .ref x, hs, x, cl c, dx, p, vs, i, rfl, B.sl, S.s, hpp, h.2 _ _ σ _ H0 F0 F α μ x dx _ _ pd' Q c3 hs B3 (R.put i r) q hp k⟩
@[simp] def mbTup (is : List Nat) (m : ME) : MB := fun δ μ pd => match m δ μ with
  | some (.dat (.tup ds), μ1) => if ds.length = is.length then match putDs is ds pd with
      | some pd' => some (μ1, pd')
      | none => none
    else none
  | _ => none
theorem sb_tup {c : Nat} {ts : List Expr} {g : TGs} {is : List Nat} {kt : Nat} {pt : Pos} (h : GsOk X cl c ts g is) (he : SE X cl e m) (hc : X.calm = true := by rfl) (hn : (assignEach ts X.env).length = is.length := by rfl) (hst : (assignEach ts X.env).findIdx? (·.1) = none := by rfl)
    (hs : swapsWithSole [.Tuple ts kt pt] e pos.line X.env = pure false := by rfl) (hw : swappedStores [.Tuple ts kt pt] e X.env = pure none := by rfl)
    (h1 : (assignEach [.Tuple ts kt pt] X.env).map (·.2) = [assign (.Tuple ts kt pt) X.env] := by rfl) : SB X cl c (.Assign [.Tuple ts kt pt] e pos) (mbTup is m) := by
  refine PS.weak (ps_asg he (pg_tup hc h.1 hn hst) hs hw h1) fun E σ H ⟨H0, F0, F, α, δ, μ, x, dx, vs, pd, μ', pd', C, Ee, hs, B, R, hm, k⟩ => ?_
  unfold mbTup at hm
  split at hm
  · rename_i ds μ1 h1
    split at hm
    · rename_i hl
      split at hm
      · rename_i pd1 h2
        cases hm
        refine ⟨F, α, δ, μ, _, _, C, Ee, h1, fun v F1 H1 e1 c1 q1 => ?_⟩
        cases q1 with
        | tup hq hr =>
          refine ⟨_, _, rfl, Same.sqT c1.sub hq, by rw [hr.length, hl], h.2 ds _ σ H1 H0 F0 F1 α μ' x dx vs pd pd' E.nx c1 hs (B.step e1) (R.mono e1.ff) hr h2 fun H2 vs2 c2 B2 R2 => k F1 H2 vs2 c2 (Ee.step e1) B2 R2⟩
      · cases hm
    · cases hm
  · cases hm
/-- if c: ..; the test is false -/
@[simp] def mbIf (mt : MT) : MB := fun δ μ pd => match mt δ μ with
  | some (false, μ1) => some (μ1, pd)
  | _ => none
end
end DL
set_option Elab.async false
set_option linter.all false
set_option maxRecDepth 100000
set_option maxHeartbeats 1000000
namespace DL
open PySem PySem.Spec PyProof.Rows L2
abbrev MIn := List R → Mu → Option (List D × Mu)
def someAll : List (Option D) → Option (List D)
  | [] => some []
  | some d :: xs => match someAll xs with
    | some ds => some (d :: ds)
    | none => none
  | none :: _ => none
@[simp] def mInit (n N : Nat) (mb : MB) : MIn := fun rs μ => if rs.length + 1 = n then
    match mb (.no :: (rs ++ List.replicate (N - n) .no)) μ [] with
    | some (μ', pd) => match someAll pd with
      | some ds => some (ds, μ')
      | none => none
    | none => none
  else none
def spI (K : PySem.W.Frag) (cl : Nat → Addr) (c n : Nat) (mi : MIn) : Sp := fun vs H Q _ => ∃ x dx H0 ws F α μ rs ds μ', vs = .ref x :: ws ∧ vs.length = n ∧ H0 x = none ∧ H0 dx = none ∧ dx ≠ x ∧ H = upd (upd H0 dx (.own x)) x (.ins (cl c) dx []) ∧
  Conc K cl F α μ H0 ∧ ArgRs K cl F α ws rs ∧ mi rs μ = some (ds, μ') ∧ ∀ F' H', Evo F α H0 F' α H' → Conc K cl F' α μ' H' → Rep K cl F' (.ref x) (.ins c ds) → Q .non H'
section
variable {K : PySem.W.Frag} {cl : Nat → Addr}
theorem someAll_ok : ∀ {pd : List (Option D)} {ds : List D}, someAll pd = some ds → pd = ds.map some
  | [], _, h => by
    cases h
    rfl
  | some d :: pd, _, h => by
    unfold someAll at h
    split at h
    · rename_i ds e
      cases h
      rw [List.map_cons, someAll_ok e]
    · cases h
  | none :: _, _, h => by cases h
theorem prel_all {F : Hp} : ∀ {ds : List D} {vs : List (Option V)}, PRel K cl F vs (ds.map some) → ∃ us, vs = us.map some ∧ Reps K cl F us ds
  | [], vs, h => by
    have := h.1
    cases vs with
    | nil => exact ⟨[], rfl, .nil⟩
    | cons _ _ => simp at this
  | d :: ds, vs, h => by
    cases vs with
    | nil =>
      have := h.1
      simp at this
    | cons o vs =>
      obtain ⟨v, h1, h2⟩ := h.2 0 d rfl
      rw [List.getElem?_cons_zero] at h1
      cases h1
      obtain ⟨us, h3, h4⟩ := prel_all (ds := ds) (vs := vs) ⟨by simpa using h.1, fun i d' q => by
        obtain ⟨v', h5, h6⟩ := h.2 (i + 1) d' (by simpa using q)
        exact ⟨v', by simpa using h5, h6⟩⟩
      exact ⟨v :: us, by rw [h3]; rfl, .cons h2 h4⟩
theorem env_cons {F : Hp} {α : List Addr} {σ : L2.St} {δ : Sl} {o : Option V} (h : EnvOk K cl F α σ δ) : EnvOk K cl F α (o :: σ) (.no :: δ) := by
  refine ⟨by simp [h.1], fun i d q => ?_, fun i k q => ?_⟩
  · cases i with
    | zero => simp at q
    | succ i =>
      rw [List.getElem?_cons_succ] at q ⊢
      exact h.2.1 i d q
  · cases i with
    | zero => simp at q
    | succ i =>
      rw [List.getElem?_cons_succ] at q ⊢
      exact h.2.2 i k q
theorem fresh_new {F H : Hp} {α : List Addr} {μ : Mu} {C x dx : Addr} (c : Conc K cl F α μ H) (hx : H x = none) (hd : H dx = none) (ne : dx ≠ x) :
    Bd C x dx H F α F (upd (upd H dx (.own x)) x (.ins C dx [])) [] ∧ Conc K cl F α μ (upd (upd H dx (.own x)) x (.ins C dx [])) := by
  have get : ∀ a, a ≠ x → a ≠ dx → upd (upd H dx (.own x)) x (.ins C dx []) a = H a := fun a h1 h2 => by rw [upd_ne h1, upd_ne h2]
  have nF : ∀ a, H a = none → F a = none := fun a h => by
    cases e : F a with
    | none => rfl
    | some u =>
      rw [c.sub a u e] at h
      cases h
  have nA : ∀ a, H a = none → a ∉ α := fun a h z => by
    obtain ⟨k, hk, ek⟩ := List.mem_iff_getElem.mp z
    have hk2 : k < μ.length := by rw [← c.len]; exact hk
    obtain ⟨vs, q⟩ := (c.cell k a μ[k] (by rw [List.getElem?_eq_getElem hk, ek]) (List.getElem?_eq_getElem hk2)).some
    rw [h] at q
    cases q
  have some_ne : ∀ a u, H a = some u → a ≠ x ∧ a ≠ dx := fun a u h => ⟨ne_of_none h hx, ne_of_none h hd⟩
  refine ⟨⟨⟨Same.refl F, ⟨[], by simp⟩, fun a o q _ => ?_, fun a q => ?_, fun a o q1 q2 => ?_, fun a q1 q2 => absurd q1 q2, fun a o u q => by rw [get a (some_ne a _ q).1 (some_ne a _ q).2]; exact q⟩, .inl ⟨upd_same, rfl⟩, nF x hx, nF dx hd, nA x hx, nA dx hd, ne, hx, hd, _, by rw [upd_ne ne, upd_same]⟩, ⟨fun a o q => ?_, c.len, c.nd, fun k a xs q1 q2 => ?_, c.out⟩⟩
  · rw [get a (some_ne a o q).1 (some_ne a o q).2]
    exact q
  · by_cases z : a = x
    · rw [z]
      exact hx
    · by_cases z2 : a = dx
      · rw [z2]
        exact hd
      · rw [get a z z2] at q
        exact q
  · rw [q1] at q2
    cases q2
  · have q' := c.sub a o q
    rw [get a (some_ne a o q').1 (some_ne a o q').2]
    exact q'
  · have q := c.cell k a xs q1 q2
    obtain ⟨u, q3⟩ := q.some
    rw [get a (some_ne a _ q3).1 (some_ne a _ q3).2]
    exact q
/-- the new instance is data from now on -/
theorem Bd.done {C x dx : Addr} {H0 F0 F H : Hp} {α : List Addr} {μ : Mu} {us : List V} {u : V} (h : Bd C x dx H0 F0 α F H ((u :: us).map some)) (c : Conc K cl F α μ H) :
    ∃ F', Evo F0 α H0 F' α H ∧ Conc K cl F' α μ H ∧ Same F F' ∧ SlX.Slt F' x C dx ((u :: us).map some) ∧ F' x = some (SlX.SlO x C dx ((u :: us).map some)) := by
  have hs : H x = some (SlX.SlO x C dx ((u :: us).map some)) ∧ H dx = some (.xd []) := by
    rcases h.sl with ⟨_, z⟩ | z
    · simp at z
    · exact z
  have s1 : Same F (upd F dx (.xd [])) := same_upd h.fd
  have s2 : Same (upd F dx (.xd [])) (upd (upd F dx (.xd [])) x (SlX.SlO x C dx ((u :: us).map some))) := same_upd (by rw [upd_ne h.ne.symm]; exact h.fx)
  refine ⟨upd (upd F dx (.xd [])) x (SlX.SlO x C dx ((u :: us).map some)), ⟨h.ev.ff.trans (s1.trans s2), h.ev.ext, h.ev.hh, h.ev.dom, fun a o q1 q2 => ?_, h.ev.fra, h.ev.frz⟩, ⟨fun a o q => ?_, c.len, c.nd, fun k a xs q1 q2 => ?_, fun a ha => ?_⟩, s1.trans s2, .inr ⟨upd_same, by rw [upd_ne h.ne, upd_same]⟩, upd_same⟩
  · by_cases z : a = x
    · rw [z]
      exact h.ox
    · have q3 := upd_some_ne q2 z
      by_cases z2 : a = dx
      · rw [z2]
        exact h.od
      · exact h.ev.fre a o q1 (upd_some_ne q3 z2)
  · by_cases z : a = x
    · subst z
      rw [upd_same] at q
      cases q
      exact hs.1
    · have q3 := upd_some_ne q z
      by_cases z2 : a = dx
      · subst z2
        rw [upd_same] at q3
        cases q3
        exact hs.2
      · exact c.sub a o (upd_some_ne q3 z2)
  · exact (c.cell k a xs q1 q2).monoF (s1.trans s2)
  · rw [upd_ne (fun z => h.ax (by rw [← z]; exact ha)), upd_ne (fun z => h.ad (by rw [← z]; exact ha))]
    exact c.out a ha
theorem init_ok {P : Program} {w : World} {mg : Str → Option Value} {base : Heap} {x qual : Str} {st : Stmt} {f : Addr} {fd : FuncData} {N ps : List Str} {k n c : Nat} {body : MB} (F : Fun K x qual st f fd) (S : FnScope N ps (defScope st)) (hn : ps.length = n) (hN : n ≤ N.length)
    (hne : ∀ δ μ pd μ', body δ μ pd ≠ some (μ', []))
    (hb : ∀ (cdv : Value) (A : Around) (outer : List Env) (s : Shared) (H : Hp) (E : XK), Room k (A.deeper (envOfC qual (defScope st) s.heap.objs.size f cdv)) →
      SBs (cxOf CX0 P w K mg base N qual (defScope st) f cdv A outer s H E).nox cl c (defBody st) body) : FnOk P w K mg base CX0 (k + 1) f fd ps (spI K cl c n (mInit n N.length body)) := by
  refine F.ok S (fun vs H Q E h => ?_) (fun cdv A outer s H vs Q E hr h => ⟨_, hb cdv A outer s H E hr, ?_⟩)
  · obtain ⟨_, _, _, _, _, _, _, _, _, _, _, h, _⟩ := h
    rw [h, hn]
  · obtain ⟨y, dx, H0, ws, F, α, μ, rs, ds, μ', rfl, hl, hx, hd, ne, rfl, C, ha, hm, k⟩ := h
    unfold mInit at hm
    split at hm
    · rename_i hrs
      split at hm
      · rename_i μ1 pd h1
        split at hm
        · rename_i ds' h2
          cases hm
          obtain ⟨B, C1⟩ := fresh_new (C := cl c) C hx hd ne
          have hst : L2.start N (.ref y :: ws) = some (.ref y) :: L2.start (N.drop 1) ws := by
            unfold L2.start
            cases N with
            | nil => simp at hN; omega
            | cons a N => simp
          have en : EnvOk K cl F α (L2.start N (.ref y :: ws)) (.no :: (rs ++ List.replicate (N.length - n) .no)) := by
            rw [hst]
            have en0 := env_start (N := N.drop 1) ha
            have e1 : (N.drop 1).length - rs.length = N.length - n := by
              rw [List.length_drop]
              omega
            rw [e1] at en0
            exact env_cons en0
          refine ⟨H0, F, F, α, _, μ, y, dx, [], [], μ', pd, C1, en, by rw [hst]; rfl, B, ⟨rfl, fun i d q => by simp at q⟩, h1, fun F1 H1 vs1 c1 e1 B1 R1 => ?_⟩
          rw [someAll_ok h2] at R1
          obtain ⟨us, rfl, q1⟩ := prel_all R1
          cases us with
          | nil =>
            cases q1
            rw [someAll_ok h2] at h1
            exact absurd h1 (hne _ _ _ _)
          | cons u us =>
            obtain ⟨F2, e2, c2, s2, s3, s4⟩ := B1.done c1
            exact k F2 H1 e2 c2 (.ins s3 s4 (q1.mono s2))
        · cases hm
      · cases hm
    · cases hm
end
end DL
set_option Elab.async false
set_option linter.all false
set_option maxRecDepth 100000
set_option maxHeartbeats 1000000
namespace DL
open PySem PySem.Spec PyProof.Rows L2
/-- the class number c, by its name: how it is made -/
structure FI (P : Program) (w : World) (K : PySem.W.Frag) (mg : Str → Option Value) (base : Heap) (cl : Nat → Addr) (k c : Nat) (x : Str) (n : Nat) (mi : MIn) : Prop where
  ok : ∃ (f : Addr) (fd : FuncData) (ps : List Str), Mk K (cl c) f ∧ FnOk P w K mg base CX0 k f fd ps (spI K cl c n mi) ∧ mg x = some (.ref (cl c)) ∧ Binds K fd ps [] ∧ ps.length = n
  ar : ∀ rs μ z, mi rs μ = some z → rs.length + 1 = n
theorem mInit_ar {n N : Nat} {body : MB} : ∀ rs μ z, mInit n N body rs μ = some z → rs.length + 1 = n := fun rs μ z h => by
  unfold mInit at h
  split at h
  · rename_i h1
    exact h1
  · cases h
section
variable {X : Cx} {cl : Nat → Addr} {e o a b tg : Expr} {es : List Expr} {m mo ma mb : ME} {ms : MA} {pos p apos : Pos} {K : PySem.W.Frag} {f g C : Addr} {n k j c : Nat} {mf : MF} {mi : MIn} {P : Program} {w : World} {mg : Str → Option Value} {base : Heap} {nm : Str}
@[simp] def mMake (c : Nat) (mi : MIn) (ms : MA) : ME := fun δ μ => match ms δ μ with
  | none => none
  | some (rs, μ1) => match mi rs μ1 with
    | none => none
    | some (ds, μ2) => some (.dat (.ins c ds), μ2)
theorem se_make (S : FI X.prog X.w X.K X.mg X.base cl k c nm n mi) (hr : Room j X.A) (hk : k + 1 ≤ j) (ha : SA X cl (e :: es) ms) (hg : Gl X nm := by rfl) (hdb : (nm == ("__debug__" : Str)) = false := by decide) (he : starEach (e :: es) X.env = (false, eval e X.env) :: starEach es X.env := by rfl) (hpl : (backTo pos (starEach es X.env)).any (·.1) = false := by rfl) :
    SE X cl (.Call (.Name nm p) (e :: es) [] pos) (mMake c mi ms) := by
  obtain ⟨f, fd, ps, M, F, hm, hb, hn⟩ := S.ok
  refine PE.weak (pe_make M F (hr.mono hk) hg hm hb .nil pass0 ha hdb he hpl) fun σ H Q ⟨F, α, δ, μ, z, μ', C, Ee, hm, kk⟩ => ?_
  unfold mMake at hm
  split at hm
  · cases hm
  rename_i rs μ1 h1
  split at hm
  · cases hm
  rename_i ds μ2 h2
  cases hm
  refine ⟨F, α, δ, μ, rs, μ1, C, Ee, h1, fun vs F1 H1 e1 c1 q1 x dx hx hd ne => ?_⟩
  refine ⟨x, dx, H1, vs, F1, α, μ1, rs, ds, μ', by rw [List.append_nil], ?_, hx, hd, ne, rfl, c1, q1, h2, fun F2 H2 e2 c2 r2 => ⟨rfl, kk _ F2 H2 (e1.trans e2) c2 r2⟩⟩
  rw [List.append_nil, List.length_cons, q1.length]
  exact S.ar _ _ _ h2

/-- x op y, both of the class at C -/
def rBin (C : Addr) (sp : Sp) (E : XK) : R2 := fun x y H Q => ∃ a dx vs b dy ws, x = .ref a ∧ y = .ref b ∧ SlX.Slt H a C dx vs ∧ SlX.Slt H b C dy ws ∧ sp [x, y] H Q E
theorem op_bin {op : Operator} {CX : CXT} {sp : Sp} {E : XK} (hc : PySem.W.selfFirst X.K C = true) (hs : PySem.W.findIn X.K (.ref C) (PySem.dunder op.info.2) = some (some (.ref g))) (hf : PySem.W.isFn X.K (.ref g) = true) (F : FnR X.prog X.w X.K X.mg X.base CX n g sp)
    (hr : Room n X.A) (hx : Passes CX X E) : OpR X (binaryOp op) (rBin C sp E) := by
  intro pins s σ H x y v u Q I rx ry h
  obtain ⟨a, dx, vs, b, dy, ws, rfl, rfl, ha, hb, q⟩ := h
  cases (show v = Value.ref a from rx)
  cases (show u = Value.ref b from ry)
  obtain ⟨sl, od, _, J, _⟩ := SlX.slt_inst I ha
  obtain ⟨sl', od', _, J', _⟩ := SlX.slt_inst I hb
  obtain ⟨m, hF⟩ := I.fr
  refine PySem.W.binop_K hF I.ok.mod.kin J J'.type hc hs hf ?_
  refine wpAny_mono (wpAny_call (run_fnR (us := [.ref a, .ref b]) (vs := [.ref a, .ref b]) F hr hx I (.cons rfl (.cons rfl .nil)) q)) (fun w s' z => ?_) fun _ _ x => x
  obtain ⟨z', H', I', rz, qz⟩ := z
  exact SlX.cmpback rz ⟨z', H', I', rz, qz⟩
structure FO (P : Program) (w : World) (K : PySem.W.Frag) (mg : Str → Option Value) (base : Heap) (cl : Nat → Addr) (k c : Nat) (op : Operator) (m : MF) : Prop where
  sf : PySem.W.selfFirst K (cl c) = true
  ok : ∃ g, PySem.W.findIn K (.ref (cl c)) (PySem.dunder op.info.2) = some (some (.ref g)) ∧ PySem.W.isFn K (.ref g) = true ∧ FA P w K mg base cl k g 2 m
theorem FO.cx {op : Operator} (S : FO P w K mg base cl k c op mf) : FO P w K mg base cl k c op (callX mf) := by
  obtain ⟨s, g, h1, h2, h3⟩ := S
  exact ⟨s, g, h1, h2, h3.x⟩
@[simp] def mBin (c : Nat) (f : MF) (ma mb : ME) : ME := fun δ μ => match ma δ μ with
  | some (.dat (.ins c1 xs), μ1) => if c1 = c then match mb δ μ1 with
      | some (.dat (.ins c2 ys), μ2) => if c2 = c then f [.dat (.ins c1 xs), .dat (.ins c2 ys)] μ2 else none
      | _ => none
    else none
  | _ => none
theorem se_bin {op : Operator} (S : FO X.prog X.w X.K X.mg X.base cl k c op mf) (hr : Room j X.A) (hk : k ≤ j) (ha : SE X cl a ma) (hb : SE X cl b mb) : SE X cl (.BinOp a op b pos) (mBin c mf ma mb) := by
  obtain ⟨sf, g, h1, h2, h3⟩ := S
  refine PE.weak (pe_op (op_bin sf h1 h2 h3.raw (hr.mono hk) pass0) ha hb) fun σ H Q ⟨F, α, δ, μ, z, μ', C, Ee, hm, kk⟩ => ?_
  unfold mBin at hm
  split at hm
  · rename_i c1 xs μ1 e1
    split at hm
    · rename_i hc1
      split at hm
      · rename_i c2 ys μ2 e2
        split at hm
        · rename_i hc2
          subst hc1
          subst hc2
          refine ⟨F, α, δ, μ, _, _, C, Ee, e1, fun v F1 H1 v1 d1 q1 => ?_⟩
          refine ⟨F1, α, δ, μ1, _, _, d1, Ee.step v1, e2, fun u F2 H2 v2 d2 q2 => ?_⟩
          have q1' : Rep X.K cl F2 v (.ins c2 xs) := Rep.mono v2.ff q1
          have q2' : Rep X.K cl F2 u (.ins c2 ys) := q2
          have hsp : spM X.K cl 2 mf [v, u] H2 Q E0 := ⟨F2, α, μ2, [.dat (.ins c2 xs), .dat (.ins c2 ys)], z, μ', rfl, d2, .cons q1' (.cons q2' .nil), hm, fun v F3 H3 e3 c3 r3 => kk v F3 H3 ((v1.trans v2).trans e3) c3 (r3.back (v1.trans v2).dom)⟩
          cases q1' with
          | ins hs1 hq1 hr1 =>
            cases q2' with
            | ins hs2 hq2 hr2 => exact ⟨_, _, _, _, _, _, rfl, rfl, Same.slt d2.sub hs1, Same.slt d2.sub hs2, hsp⟩
        · cases hm
      · cases hm
    · cases hm
  · cases hm
end
end DL
set_option Elab.async false
set_option linter.all false
set_option maxRecDepth 100000
set_option maxHeartbeats 1000000

namespace DL
open PySem PySem.Spec PyProof.Rows L2
structure FAK (P : Program) (w : World) (K : PySem.W.Frag) (mg : Str → Option Value) (base : Heap) (cl : Nat → Addr) (k : Nat) (f : Addr) (n : Nat) (m : MF) (np : Nat) (ks : List Str) (is : List Nat) : Prop where
  ok : ∃ (fd : FuncData) (ps : List Str), FnOk P w K mg base CX0 k f fd ps (spM K cl n m) ∧ KBn K fd ps np ks (fun us ws => pick is (us ++ ws)) (fun us ws => pick is (us ++ ws))
  kp : PySem.W.keepIn K (.ref f) = true
  ar : ∀ rs μ z, m rs μ = some z → rs.length = n
structure FMK (P : Program) (w : World) (K : PySem.W.Frag) (mg : Str → Option Value) (base : Heap) (cl : Nat → Addr) (k c : Nat) (x : Str) (n : Nat) (m : MF) (np : Nat) (ks : List Str) (is : List Nat) : Prop where
  s : SlX.SCls K (cl c)
  ok : ∃ f, Meth K (cl c) x f ∧ FAK P w K mg base cl k f n m np ks is
structure FTK (P : Program) (w : World) (K : PySem.W.Frag) (mg : Str → Option Value) (base : Heap) (cl : Nat → Addr) (k : Nat) (x y : Str) (n : Nat) (m : MF) (np : Nat) (ks : List Str) (is : List Nat) : Prop where
  ok : ∃ C g, mg x = some (.ref C) ∧ SMet K C y g ∧ FAK P w K mg base cl k g n m np ks is
section
variable {P : Program} {w : World} {K : PySem.W.Frag} {mg : Str → Option Value} {base : Heap} {cl : Nat → Addr} {k n np c : Nat} {f : Addr} {mf : MF} {ks : List Str} {is : List Nat} {nm nn : Str}
theorem FAK.cx (S : FAK P w K mg base cl k f n mf np ks is) : FAK P w K mg base cl k f n (callX mf) np ks is := by
  obtain ⟨⟨fd, ps, F, h⟩, kp, ar⟩ := S
  exact ⟨⟨fd, ps, F.imp fun vs H Q E h => callX_sp h, h⟩, kp, callX_ar ar⟩
theorem FMK.x (S : FMK P w K mg base cl k c nm n mf np ks is) : FMK P w K mg base cl k c nm n (callX mf) np ks is := by
  obtain ⟨s, f, h1, h2⟩ := S
  exact ⟨s, f, h1, h2.cx⟩
theorem FTK.x (S : FTK P w K mg base cl k nm nn n mf np ks is) : FTK P w K mg base cl k nm nn n (callX mf) np ks is := by
  obtain ⟨C, g, h0, h1, h2⟩ := S
  exact ⟨C, g, h0, h1, h2.cx⟩
end
section
variable {X : Cx} {cl : Nat → Addr} {e o a b tg : Expr} {es : List Expr} {m mo ma mb : ME} {ms mk : MA} {pos p apos : Pos} {K : PySem.W.Frag} {f g C : Addr} {n np nk k j c : Nat} {mf : MF} {ks : List Str} {is : List Nat} {kws : List Keyword} {nm y : Str} {CX : CXT} {sp : Sp} {E : XK} {to : TE} {t tk : TA}
/-- o.y(e, .., k = v, ..): np values behind o -/
def tMethK (C : Addr) (np nk : Nat) (sp : Sp) (gV : List V → List V → List V) (E : XK) (to : TE) (t tk : TA) : TE := fun σ H Q => to σ H fun z H1 => ∃ a dx vs, z = .ref a ∧ SlX.Slt H1 a C dx vs ∧ t σ H1 fun ws H2 => tk σ H2 fun zs H3 => (z :: ws).length = np ∧ zs.length = nk ∧ sp (gV (z :: ws) zs) H3 Q E
@[simp] def mMethK (c : Nat) (f : MF) (np nk : Nat) (is : List Nat) (mo : ME) (ms mk : MA) : ME := fun δ μ => match mo δ μ with
  | some (.dat (.ins c' xs), μ1) => if c' = c then match ms δ μ1 with
      | some (rs, μ2) => match mk δ μ2 with
        | some (zs, μ3) => if rs.length + 1 = np ∧ zs.length = nk then f (pick is (.dat (.ins c' xs) :: rs ++ zs)) μ3 else none
        | none => none
      | none => none
    else none
  | _ => none
theorem ArgRs.step {F F' H H' : Hp} {α α' : List Addr} {vs : List V} {rs : List R} (h : ArgRs K cl F α vs rs) (e : Evo F α H F' α' H') : ArgRs K cl F' α' vs rs := by
  induction h with
  | nil => exact .nil
  | cons r q ih => exact .cons (r.step e) ih
end
end DL
set_option Elab.async false
set_option linter.all false
set_option maxRecDepth 100000
set_option maxHeartbeats 1000000

namespace DL
open PySem PySem.Spec PyProof.Rows L2
abbrev FunX (K : PySem.W.Frag) (x qual : Str) (st : Stmt) (dvs : List V) (f : Addr) (fd : FuncData) : Prop := FunD K x qual (defArgs st) (defBody st) (defScope st) dvs [] f fd
theorem funx_mk {K : PySem.W.Frag} {x qual : Str} {st : Stmt} {f T : Addr} {oc : Value} {od an : Option Addr} {osl : Array (Option Value)} {kV doc pm cdv ct : Value} {o : Obj} {its : List Value} {n : Nat} {dvs : List V} (l : K.lookup f = some ⟨oc, od, .func (PySem.W.fnOf x qual (defArgs st) (defBody st) (defScope st) (.ref T) kV doc pm an cdv ct), osl⟩)
    (c : PySem.W.codeIn K cdv qual = true) (k : PySem.W.keepIn K (.ref f) = true) (lT : K.lookup T = some o) (oT : o.data = .seq its.toArray n) (hv : Vals dvs its) (hne : dvs ≠ []) : FunX K x qual st dvs f (PySem.W.fnOf x qual (defArgs st) (defBody st) (defScope st) (.ref T) kV doc pm an cdv ct) :=
  ⟨⟨oc, od, .ref T, kV, doc, pm, an, cdv, ct, osl, rfl, l, c, .inr ⟨hne, T, o, its, n, rfl, lT, oT, hv⟩, .inl rfl⟩, k⟩
section
variable {K : PySem.W.Frag} {cl : Nat → Addr}
end
section
variable {X : Cx} {cl : Nat → Addr} {e o a b tg : Expr} {es : List Expr} {m mo ma mb : ME} {ms mk : MA} {pos p apos : Pos} {K : PySem.W.Frag} {f g C : Addr} {n np nk k j c : Nat} {mf : MF} {nm y : Str} {P : Program} {w : World} {mg : Str → Option Value} {base : Heap}

structure FC (P : Program) (w : World) (K : PySem.W.Frag) (mg : Str → Option Value) (base : Heap) (cl : Nat → Addr) (k c : Nat) (n : Nat) (m : MF) : Prop where
  ok : ∃ g, StX.CallO K (cl c) g ∧ FA P w K mg base cl k g n m
theorem FC.x (S : FC P w K mg base cl k c n mf) : FC P w K mg base cl k c n (callX mf) := by
  obtain ⟨g, h1, h2⟩ := S
  exact ⟨g, h1, h2.x⟩
structure IsC (K : PySem.W.Frag) (cl : Nat → Addr) (c : Nat) : Prop where
  s : SlX.SCls K (cl c)
  i : SlX.SIsi K (cl c)
  bool : PySem.W.kitOne K (.ref (cl c)) (.type "bool") = some false
  int : PySem.W.kitOne K (.ref (cl c)) (.type "int") = some false
  str : PySem.W.kitOne K (.ref (cl c)) (.type "str") = some false
  tuple : PySem.W.kitOne K (.ref (cl c)) (.type "tuple") = some false
  list : PySem.W.kitOne K (.ref (cl c)) (.type "list") = some false
def rIsiA (K : PySem.W.Frag) (u : Value) : List V → Hp → VK → Prop := fun xs H Q => rIsi K xs H Q ∨ SlX.rIsiSl K u xs H Q
theorem call_isiA (u : Value) : CallR X (.builtin "isinstance") (rIsiA X.K u) := by
  intro pins s σ H xs us Q I r h
  rcases h with h | h
  · exact call_isi pins s σ H xs us Q I r h
  · exact SlX.call_isiSl u pins s σ H xs us Q I r h
@[simp] def mIsiN (n : Nat) (T : String) (m : ME) : ME := fun δ μ => match m δ μ with
  | none => none
  | some (.dat (.ins c _), μ1) => if c < n then some (.dat (.bl false), μ1) else none
  | some (r, μ1) => match tag μ1 r with
    | some t => some (.dat (.bl (isB t T)), μ1)
    | none => none
@[simp] def mIsiA (T : String) (m : ME) : ME := fun δ μ => match m δ μ with
  | none => none
  | some (.dat (.ins c _), μ1) => if c < 900 then some (.dat (.bl false), μ1) else none
  | some (r, μ1) => match tag μ1 r with
    | some t => some (.dat (.bl (isB t T)), μ1)
    | none => none
/-- isinstance(x, C) -/
structure IsO (K : PySem.W.Frag) (mg : Str → Option Value) (cl : Nat → Addr) (n : Nat) (nm : Str) (c' : Nat) : Prop where
  m : mg nm = some (.ref (cl c'))
  s : ∀ c, c < n → SlX.SCls K (cl c) ∧ SlX.SIsi K (cl c) ∧ PySem.W.kitOne K (.ref (cl c)) (.ref (cl c')) = some (c == c')
  non : PySem.W.kitOne K (.type "NoneType") (.ref (cl c')) = some false
  bool : PySem.W.kitOne K (.type "bool") (.ref (cl c')) = some false
  int : PySem.W.kitOne K (.type "int") (.ref (cl c')) = some false
  str : PySem.W.kitOne K (.type "str") (.ref (cl c')) = some false
  tuple : PySem.W.kitOne K (.type "tuple") (.ref (cl c')) = some false
  list : PySem.W.kitOne K (.type "list") (.ref (cl c')) = some false
@[simp] def mIsiO (n c' : Nat) (m : ME) : ME := fun δ μ => match m δ μ with
  | none => none
  | some (.dat (.ins c _), μ1) => if c < n then some (.dat (.bl (c == c')), μ1) else none
  | some (r, μ1) => match tag μ1 r with
    | some t => some (.dat (.bl false), μ1)
    | none => none
theorem se_isiO {c' : Nat} {pT : Pos} (hI : IsO X.K X.mg cl n nm c') (hm : X.mg "isinstance" = none) (he : SE X cl a m) (hg : Gl X "isinstance" := by rfl) (hgT : Gl X nm := by rfl) (hd : (nm == ("__debug__" : Str)) = false := by decide)
    (hs : starEach (a :: [.Name nm pT]) X.env = (false, eval a X.env) :: starEach [.Name nm pT] X.env := by rfl) (hs2 : starEach (.Name nm pT :: []) X.env = (false, eval (.Name nm pT) X.env) :: starEach [] X.env := by rfl) (hpl : (backTo pos (starEach [.Name nm pT] X.env)).any (·.1) = false := by rfl) :
    SE X cl (.Call (.Name "isinstance" p) [a, .Name nm pT] [] pos) (mIsiO n c' m) := by
  refine PE.weak (pe_callB (call_isiA (.ref (cl c'))) hg hm (by decide +kernel) (pa_cons he (pa_cons (pe_glob (v := .ref (cl c')) hgT hI.m rfl hd) pa_nil hs2) hs) (he := hs) (hpl := hpl)) fun σ H Q ⟨F, α, δ, μ, z, μ', C, Ee, hm, k⟩ => ?_
  unfold mIsiO at hm
  split at hm
  · cases hm
  · rename_i c1' xs μ1 h1
    split at hm
    · rename_i hc
      cases hm
      refine ⟨F, α, δ, μ, _, μ', C, Ee, h1, fun v F1 H1 e1 c1 q1 => ?_⟩
      obtain ⟨i1, i2, i3⟩ := hI.s c1' hc
      cases q1 with
      | ins hsl hq hr => exact .inr ⟨_, _, _, _, .ref (cl c'), _, rfl, rfl, fun w hw => hw, Same.slt c1.sub hsl, i1, i2, i3, k _ F1 H1 e1 c1 (.bl _)⟩
    · cases hm
  · rename_i r1 μ1 _ h1
    split at hm
    · rename_i t h2
      cases hm
      refine ⟨F, α, δ, μ, r1, μ', C, Ee, h1, fun v F1 H1 e1 c1 q1 => ?_⟩
      obtain ⟨q2, q3⟩ := tag_ok c1 q1 h2
      refine .inl ⟨v, .ref (cl c'), .type t, .ref (cl c'), false, rfl, .own _, q2, ?_, k _ F1 H1 e1 c1 (.bl _)⟩
      rcases q3 with rfl | rfl | rfl | rfl | rfl | rfl
      · exact hI.non
      · exact hI.bool
      · exact hI.int
      · exact hI.str
      · exact hI.tuple
      · exact hI.list
    · cases hm
end
end DL
set_option Elab.async false
set_option linter.all false
set_option maxRecDepth 100000
set_option maxHeartbeats 1000000
namespace DL
open PySem PySem.Spec PyProof.Rows L2
theorem putD_len {i : Nat} {d : D} {pd : List (Option D)} : 0 < (putD i d pd).length := by
  unfold putD
  rw [List.length_set, List.length_append, List.length_replicate]
  omega
theorem putDs_len : ∀ {is : List Nat} {ds : List D} {pd pd' : List (Option D)}, 0 < pd.length → putDs is ds pd = some pd' → 0 < pd'.length
  | [], [], _, _, h, e => by
    cases e
    exact h
  | _ :: is, _ :: ds, _, _, _, e => putDs_len (is := is) (ds := ds) putD_len e
  | [], _ :: _, _, _, _, e => by cases e
  | _ :: _, [], _, _, _, e => by cases e
theorem mbTup_ne {i : Nat} {is : List Nat} {m : ME} (δ : Sl) (μ : Mu) (pd : List (Option D)) (μ' : Mu) : mbTup (i :: is) m δ μ pd ≠ some (μ', []) := fun h => by
  unfold mbTup at h
  split at h
  · rename_i ds μ1 _
    split at h
    · split at h
      · rename_i pd' e
        cases h
        cases ds with
        | nil => cases e
        | cons d ds =>
          have := putDs_len (is := is) (ds := ds) putD_len e
          simp at this
      · cases h
    · cases h
  · cases h
theorem kit_rt {K : PySem.W.Frag} {C : Addr} {T : String} {b : Bool} (h : PySem.W.subIn K (.ref C) (.type T) = some b) (hm : PySem.W.kitMeta T = true := by decide +kernel) : PySem.W.kitOne K (.ref C) (.type T) = some b := by
  have ne : (Value.ref C == Value.type T) = false := Bool.eq_false_iff.mpr fun q => by cases beq_iff_eq.mp q
  unfold PySem.W.kitOne PySem.W.kitCls
  rw [ne]
  simp only [Bool.false_eq_true, if_false, hm, if_true]
  exact h
theorem kit_tr {K : PySem.W.Frag} {C : Addr} {T : String} {b : Bool} (h : PySem.W.subIn K (.type T) (.ref C) = some b) (ic : PySem.W.isClsIn K C = true) (ty : PySem.W.typeIn K (.ref C) = some (.type "type")) : PySem.W.kitOne K (.type T) (.ref C) = some b := by
  have ne : (Value.type T == Value.ref C) = false := Bool.eq_false_iff.mpr fun q => by cases beq_iff_eq.mp q
  have ic' : (PySem.W.clsIn K C).isSome = true := ic
  unfold PySem.W.kitOne PySem.W.kitCls
  rw [ne]
  simp only [Bool.false_eq_true, if_false, ic', ty, beq_self_eq_true, Bool.and_self, if_true]
  exact h
theorem kit_rr {K : PySem.W.Frag} {C : Addr} : PySem.W.kitOne K (.ref C) (.ref C) = some true := if_pos (beq_self_eq_true _)
end DL
set_option Elab.async false
set_option linter.all false
set_option maxRecDepth 100000
set_option maxHeartbeats 1000000

namespace DL
open PySem PySem.Spec PyProof.Rows L2
section
variable {prog : Program} {w : World} {A : Around} {E : Value → Shared → Prop} {s : Shared} {K : PySem.W.Frag} {x C L f f0 dx : Addr} {h₀ : Heap} {m : Str → Option Value} {ox : Obj} {od : Option Obj} {sl : Array (Option Value)}
abbrev InsP (x C dx : Addr) (sl : Array (Option Value)) : Shared → Prop := fun s => s.heap.get? x = some { PySem.W.instObj C dx with slots := sl }
abbrev Dec (id : String) : Prop := ∃ B : Builtin, entryFor table id = some B ∧ (∀ a b, argsOk id ⟨[a, b], []⟩) ∧ ∀ (x C dx : Addr) (sl : Array (Option Value)) (a : Int) (t : Tok), GivesAt (InsP x C dx sl) (B ⟨[.int a t, .ref x], []⟩) (.val .notImplemented)
theorem dec_eq : Dec "int.__eq__" := ⟨_, PySem.F.entry_int_eq, PySem.F.args_int_eq_2, fun x C dx sl a t prog w A R s hP h => by
  obtain ⟨hp, g, d, tk, os⟩ := s
  wp_walk
  exact h⟩
theorem dec_lt : Dec "int.__lt__" := ⟨_, PySem.F.entry_int_lt, PySem.F.args_int_lt_2, fun x C dx sl a t prog w A R s hP h => by
  obtain ⟨hp, g, d, tk, os⟩ := s
  wp_walk
  exact h⟩
theorem dec_le : Dec "int.__le__" := ⟨_, PySem.F.entry_int_le, PySem.F.args_int_le_2, fun x C dx sl a t prog w A R s hP h => by
  obtain ⟨hp, g, d, tk, os⟩ := s
  wp_walk
  exact h⟩
theorem dec_gt : Dec "int.__gt__" := ⟨_, PySem.F.entry_int_gt, PySem.F.args_int_gt_2, fun x C dx sl a t prog w A R s hP h => by
  obtain ⟨hp, g, d, tk, os⟩ := s
  wp_walk
  exact h⟩
theorem dec_ge : Dec "int.__ge__" := ⟨_, PySem.F.entry_int_ge, PySem.F.args_int_ge_2, fun x C dx sl a t prog w A R s hP h => by
  obtain ⟨hp, g, d, tk, os⟩ := s
  wp_walk
  exact h⟩
open PySem.W in
open PySem.W in
theorem cmp_R {op : CmpOp} {n : Int} {t : Tok} {idl : String} {Q : Value → Shared → Prop} (hu : A.units < cLine) (F : Fr h₀ L s.heap m) (X₀ : K.In h₀) (I : InstAt s.heap x { PySem.W.instObj C dx with slots := sl } C od)
    (hs : findIn K (.ref C) (cmpInfo op).2.2 = some (some (.ref f))) (hf : isFn K (.ref f) = true) (hl : Slot "int" (cmpInfo op).2.1 idl) (hd : Dec idl) (hsub : subIn K (.ref C) (.type "int") = some false)
    (h : wpAny (model prog w) A (call (.ref f) [.ref x, .int n t]) (PySem.W.CmpBack Q) E s) : wpAny (model prog w) A (richCompare op (.int n t) (.ref x)) Q E s := by
  have X := X₀.keeps F.keep
  obtain ⟨B, en, ar, g⟩ := hd
  have hI : InsP x C dx sl s := I.at_
  have one : wpAny (model prog w) A (tryCompare (.int n t) (cmpInfo op).2.1 (.ref x)) (fun r s' => r = none ∧ s' = s) E s :=
    wpAny_tryCompare_declines (typeIs_int s n t) hl (call_givesAt hl (typeIs_int s n t) en (ar _ _) (g x C dx sl n t) hI ⟨rfl, rfl, rfl⟩)
  have two : wpAny (model prog w) A (tryCompare (.ref x) (cmpInfo op).2.2 (.int n t)) (fun r s' => ∃ v, r = some v ∧ Q v s') E s := by
    unfold tryCompare
    refine wpAny_bind (ifBound_K X I hs hf (wpAny_mono h (fun v s' hv => ?_) fun _ _ e => e))
    cases v <;> first | exact hv.elim | exact wpAny_pure ⟨_, rfl, hv⟩
  unfold richCompare
  simp only [(typeIs_int s n t).oneThing_none]
  refine wpAny_holding (wpAny_bind (wpAny_cRoomFor hu ?_))
  refine wpAny_bind (wpAny_typeOf (typeIs_int s n t) (wpAny_bind (I.type.here ?_)))
  have hne : (Value.type "int" != Value.ref C) = true := by
    rw [bne_iff_ne]
    exact fun q => by cases q
  simp only [hne, if_true]
  refine wpAny_bind ((looks_subIn X hsub).here ?_)
  simp only [Bool.false_eq_true, if_false, Bool.not_false, if_true]
  refine wpAny_bind (wpAny_mono one (fun r s' hr' => ?_) fun _ _ e => e)
  obtain ⟨rfl, rfl⟩ := hr'
  refine wpAny_bind (wpAny_mono two (fun r s' hr' => ?_) fun _ _ e => e)
  obtain ⟨v, rfl, hq⟩ := hr'
  exact wpAny_pure hq
open PySem.W Builtin in
open PySem.W Builtin in
end
end DL
set_option Elab.async false
set_option linter.all false
set_option maxRecDepth 100000
set_option maxHeartbeats 1000000

namespace DL
open PySem PySem.Spec PyProof.Rows L2
abbrev G2 := R → R → Mu → Option (R × Mu)
def OpSemG (K : PySem.W.Frag) (cl : Nat → Addr) (r : R2) (g : G2) : Prop := ∀ (F : Hp) (α : List Addr) (μ μ' : Mu) (H H0 : Hp) (x y : V) (rx ry z : R) (Q : VK), Conc K cl F α μ H → RepR K cl H0 F α H x rx → RepR K cl H0 F α H y ry → g rx ry μ = some (z, μ') →
  (∀ v F' H', Evo F α H F' α H' → Conc K cl F' α μ' H' → RepR K cl H F' α H' v z → Q v H') → r x y H Q
@[simp] def gB (f : R → R → Mu → Option R) : G2 := fun x y μ => match f x y μ with
  | some z => some (z, μ)
  | none => none
@[simp] def gOr (g1 g2 : G2) : G2 := fun x y μ => match g1 x y μ with
  | some r => some r
  | none => g2 x y μ
@[simp] def mOpG (g : G2) (ma mb : ME) : ME := fun δ μ => match ma δ μ with
  | none => none
  | some (x, μ1) => match mb δ μ1 with
    | none => none
    | some (y, μ2) => g x y μ2
section
variable {X : Cx} {cl : Nat → Addr} {e o a b tg : Expr} {es : List Expr} {m mo ma mb : ME} {ms mk : MA} {pos p apos : Pos} {K : PySem.W.Frag} {f g C : Addr} {n np nk k j c : Nat} {mf : MF} {nm y : Str} {P : Program} {w : World} {mg : Str → Option Value} {base : Heap} {r r' : R2} {g1 g2 : G2}
theorem argD {F H H0 : Hp} {α : List Addr} {v : V} {d : D} (h : RepR K cl H0 F α H v (.dat d)) : ArgR K cl F α v (.dat d) := h
theorem semG_B {f : R → R → Mu → Option R} (h : OpSem K cl r f) : OpSemG K cl r (gB f) := by
  intro F α μ μ' H H0 x y rx ry z Q C h1 h2 hz k
  unfold gB at hz
  split at hz
  · rename_i z' e1
    cases hz
    exact h F α μ H H0 x y rx ry z Q C h1 h2 e1 k
  · cases hz
theorem semG_or (h : OpSemG K cl r g1) (h' : OpSemG K cl r' g2) : OpSemG K cl (fun x y H Q => r x y H Q ∨ r' x y H Q) (gOr g1 g2) := by
  intro F α μ μ' H H0 x y rx ry z Q C h1 h2 hz k
  unfold gOr at hz
  split at hz
  · rename_i z' e1
    cases hz
    exact .inl (h F α μ μ' H H0 x y rx ry z Q C h1 h2 e1 k)
  · exact .inr (h' F α μ μ' H H0 x y rx ry z Q C h1 h2 hz k)
theorem opG_imp (hf : OpSemG K cl r g1) : ∀ σ H Q, tm K cl (mOpG g1 ma mb) σ H Q → tOp r (tm K cl ma) (tm K cl mb) σ H Q := fun σ H Q ⟨F, α, δ, μ, z, μ', C, Ee, hm, k⟩ => by
  unfold mOpG at hm
  split at hm
  · cases hm
  rename_i x1 μ1 h1
  split at hm
  · cases hm
  rename_i y1 μ2 h2
  refine ⟨F, α, δ, μ, x1, μ1, C, Ee, h1, fun v F1 H1 e1 c1 r1 => ⟨F1, α, δ, μ1, y1, μ2, c1, Ee.step e1, h2, fun w F2 H2 e2 c2 r2 => ?_⟩⟩
  exact hf F2 α μ2 μ' H2 H v w x1 y1 z Q c2 (r1.step e2) (r2.back e1.dom) hm fun u F3 H3 e3 c3 r3 => k u F3 H3 (e1.trans (e2.trans e3)) c3 (r3.back fun p hp => e1.dom p (e2.dom p hp))
theorem se_opG {op : Operator} (ho : OpR X (binaryOp op) r) (hf : OpSemG X.K cl r g1) (ha : SE X cl a ma) (hb : SE X cl b mb) : SE X cl (.BinOp a op b pos) (mOpG g1 ma mb) := PE.weak (pe_op ho ha hb) (opG_imp hf)
theorem se_cmpG {op : CmpOp} (ho : OpR X (compareOp op) r) (hf : OpSemG X.K cl r g1) (ha : SE X cl a ma) (hb : SE X cl b mb) (hm : behindInMarks op b = false) : SE X cl (.Compare a [op] [b] pos) (mOpG g1 ma mb) := PE.weak (pe_cmpR ho ha hb hm) (opG_imp hf)
theorem st_cmpG {op : CmpOp} (ho : OpR X (compareOp op) r) (hf : OpSemG X.K cl r g1) (ha : SE X cl a ma) (hb : SE X cl b mb) (hm : behindInMarks op b = false) : ST X cl (.Compare a [op] [b] pos) (mB (mOpG g1 ma mb)) :=
  PT.weak (pt_cmpR ho ha hb hm) (test_imp (opG_imp hf))

def BinG (X : Cx) (cl : Nat → Addr) (op : Operator) (g : G2) : Prop := ∃ r, OpR X (binaryOp op) r ∧ OpSemG X.K cl r g
def CmpG (X : Cx) (cl : Nat → Addr) (op : CmpOp) (g : G2) : Prop := ∃ r, OpR X (compareOp op) r ∧ OpSemG X.K cl r g
theorem BinG.or {op : Operator} (h : BinG X cl op g1) (h' : BinG X cl op g2) : BinG X cl op (gOr g1 g2) := by
  obtain ⟨r, h1, h2⟩ := h
  obtain ⟨r', h1', h2'⟩ := h'
  exact ⟨_, OpR.or h1 h1', semG_or h2 h2'⟩
theorem CmpG.or {op : CmpOp} (h : CmpG X cl op g1) (h' : CmpG X cl op g2) : CmpG X cl op (gOr g1 g2) := by
  obtain ⟨r, h1, h2⟩ := h
  obtain ⟨r', h1', h2'⟩ := h'
  exact ⟨_, OpR.or h1 h1', semG_or h2 h2'⟩
theorem se_binG {op : Operator} (h : BinG X cl op g1) (ha : SE X cl a ma) (hb : SE X cl b mb) : SE X cl (.BinOp a op b pos) (mOpG g1 ma mb) := by
  obtain ⟨r, h1, h2⟩ := h
  exact se_opG h1 h2 ha hb
theorem se_cG {op : CmpOp} (h : CmpG X cl op g1) (ha : SE X cl a ma) (hb : SE X cl b mb) (hm : behindInMarks op b = false := by rfl) : SE X cl (.Compare a [op] [b] pos) (mOpG g1 ma mb) := by
  obtain ⟨r, h1, h2⟩ := h
  exact se_cmpG h1 h2 ha hb hm
theorem st_cG {op : CmpOp} (h : CmpG X cl op g1) (ha : SE X cl a ma) (hb : SE X cl b mb) (hm : behindInMarks op b = false := by rfl) : ST X cl (.Compare a [op] [b] pos) (mB (mOpG g1 ma mb)) := by
  obtain ⟨r, h1, h2⟩ := h
  exact st_cmpG h1 h2 ha hb hm
theorem cmp_eqB (hu : X.A.units + 64 < cLine) : CmpG X cl .Eq (gB (fEq false)) := ⟨_, op_eqAll hu, semG_B sem_eq⟩
theorem cmp_ltB (hu : X.A.units + 64 < cLine) : CmpG X cl .Lt (gB fLt) := ⟨_, op_ltAll hu, semG_B sem_lt⟩
theorem cmp_leB : CmpG X cl .LtE (gB fLeI) := ⟨_, op_le, semG_B (sem_I0 fun _ _ _ => .bl _)⟩
theorem cmp_gtB : CmpG X cl .Gt (gB fGtI) := ⟨_, op_gt, semG_B (sem_I0 fun _ _ _ => .bl _)⟩
theorem cmp_geB : CmpG X cl .GtE (gB fGeI) := ⟨_, op_ge, semG_B (sem_I0 fun _ _ _ => .bl _)⟩

@[simp] def gII (c : Nat) (f : MF) : G2
  | .dat (.ins c1 xs), .dat (.ins c2 ys), μ => if c1 = c ∧ c2 = c then f [.dat (.ins c1 xs), .dat (.ins c2 ys)] μ else none
  | _, _, _ => none
@[simp] def gIN (c : Nat) (f : MF) : G2
  | .dat (.ins c1 xs), .dat (.int i), μ => if c1 = c then f [.dat (.ins c1 xs), .dat (.int i)] μ else none
  | _, _, _ => none
@[simp] def gNI (c : Nat) (f : MF) : G2
  | .dat (.int i), .dat (.ins c2 ys), μ => if c2 = c then f [.dat (.ins c2 ys), .dat (.int i)] μ else none
  | _, _, _ => none
theorem binII {op : Operator} (S : FO X.prog X.w X.K X.mg X.base cl k c op mf) (hr : Room j X.A) (hk : k ≤ j) : BinG X cl op (gII c mf) := by
  obtain ⟨sf, g, h1, h2, h3⟩ := S
  refine ⟨_, op_bin sf h1 h2 h3.raw (hr.mono hk) pass0, ?_⟩
  intro F α μ μ' H H0 x y rx ry z Q C q1 q2 hz kk
  unfold gII at hz
  split at hz
  · rename_i c1 xs c2 ys
    split at hz
    · rename_i hc
      obtain ⟨rfl, rfl⟩ := hc
      have hsp : spM X.K cl 2 mf [x, y] H Q E0 := ⟨F, α, μ, _, z, μ', rfl, C, .cons (argD q1) (.cons (argD q2) .nil), hz, kk⟩
      cases q1 with
      | ins hs1 hq1 hr1 =>
        cases q2 with
        | ins hs2 hq2 hr2 => exact ⟨_, _, _, _, _, _, rfl, rfl, Same.slt C.sub hs1, Same.slt C.sub hs2, hsp⟩
    · cases hz
  · cases hz
def rIN (C : Addr) (sp : Sp) (E : XK) : R2 := fun x y H Q => ∃ a dx vs i, x = .ref a ∧ y = .int i ∧ SlX.Slt H a C dx vs ∧ sp [x, y] H Q E
structure FON (P : Program) (w : World) (K : PySem.W.Frag) (mg : Str → Option Value) (base : Heap) (cl : Nat → Addr) (k c : Nat) (op : Operator) (m : MF) : Prop where
  sf : PySem.W.selfFirst K (cl c) = true
  ok : ∃ g, PySem.W.findIn K (.ref (cl c)) (PySem.dunder op.info.2) = some (some (.ref g)) ∧ PySem.W.isFn K (.ref g) = true ∧ FA P w K mg base cl k g 2 m
  rc : ∃ rc : Option Value, PySem.W.findIn K (.ref (cl c)) (dunderR op.info.2) = some rc ∧ (rc = none ∨ ∃ g : Addr, rc = some (.ref g))
  h1 : ∃ fo, PySem.W.findIn K (.type "int") (PySem.dunder op.info.2) = some fo
  h2 : ∃ ro, PySem.W.findIn K (.type "int") (dunderR op.info.2) = some ro
  sb : PySem.W.subIn K (.type "int") (.ref (cl c)) = some false
theorem FON.cx {op : Operator} (S : FON P w K mg base cl k c op mf) : FON P w K mg base cl k c op (callX mf) := by
  obtain ⟨s, ⟨g, h1, h2, h3⟩, h4, h5, h6, h7⟩ := S
  exact ⟨s, ⟨g, h1, h2, h3.x⟩, h4, h5, h6, h7⟩
theorem binIN {op : Operator} (S : FON X.prog X.w X.K X.mg X.base cl k c op mf) (hr : Room j X.A) (hk : k ≤ j) : BinG X cl op (gIN c mf) := by
  obtain ⟨sf, ⟨g, h1, h2, h3⟩, ⟨rc, h4, h4'⟩, ⟨fo, h5⟩, ⟨ro, h6⟩, h7⟩ := S
  refine ⟨rIN (cl c) (spM X.K cl 2 mf) E0, ?_, ?_⟩
  · intro pins s σ H x y v u Q I rx ry h
    obtain ⟨a, dx, vs, i, rfl, rfl, ha, q⟩ := h
    cases (show v = Value.ref a from rx)
    obtain ⟨t, rfl⟩ := (show ∃ t, u = Value.int i t from ry)
    obtain ⟨sl, od, _, J, _⟩ := SlX.slt_inst I ha
    obtain ⟨m, hF⟩ := I.fr
    refine PySem.W.ksp_binT hF I.ok.mod.kin J rfl sf h1 h2 h4 h4' h5 h6 h7 ?_
    refine wpAny_mono (wpAny_call (run_fnR (us := [.ref a, .int i t]) (vs := [.ref a, .int i]) h3.raw (hr.mono hk) pass0 I (.cons rfl (.cons ⟨t, rfl⟩ .nil)) q)) (fun w s' z => ?_) fun _ _ x => x
    obtain ⟨z', H', I', rz, qz⟩ := z
    exact SlX.cmpback rz ⟨z', H', I', rz, qz⟩
  · intro F α μ μ' H H0 x y rx ry z Q C q1 q2 hz kk
    unfold gIN at hz
    split at hz
    · rename_i c1 xs i
      split at hz
      · rename_i hc
        subst hc
        have hsp : spM X.K cl 2 mf [x, y] H Q E0 := ⟨F, α, μ, _, z, μ', rfl, C, .cons (argD q1) (.cons (argD q2) .nil), hz, kk⟩
        cases q1 with
        | ins hs1 hq1 hr1 =>
          cases q2
          exact ⟨_, _, _, _, rfl, rfl, Same.slt C.sub hs1, hsp⟩
      · cases hz
    · cases hz
def rNI (C : Addr) (sp : Sp) (E : XK) : R2 := fun x y H Q => ∃ a dx vs i, x = .int i ∧ y = .ref a ∧ SlX.Slt H a C dx vs ∧ sp [y, x] H Q E
structure FOR (P : Program) (w : World) (K : PySem.W.Frag) (mg : Str → Option Value) (base : Heap) (cl : Nat → Addr) (k c : Nat) (op : Operator) (m : MF) : Prop where
  sf : PySem.W.selfFirst K (cl c) = true
  fw : ∃ g : Addr, PySem.W.findIn K (.ref (cl c)) (PySem.dunder op.info.2) = some (some (.ref g))
  ok : ∃ g, PySem.W.findIn K (.ref (cl c)) (dunderR op.info.2) = some (some (.ref g)) ∧ PySem.W.isFn K (.ref g) = true ∧ FA P w K mg base cl k g 2 m
  sb : PySem.W.subIn K (.ref (cl c)) (.type "int") = some false
theorem FOR.cx {op : Operator} (S : FOR P w K mg base cl k c op mf) : FOR P w K mg base cl k c op (callX mf) := by
  obtain ⟨s, h0, ⟨g, h1, h2, h3⟩, h4⟩ := S
  exact ⟨s, h0, ⟨g, h1, h2, h3.x⟩, h4⟩
/-- what stands on the right -/
def TyY (K : PySem.W.Frag) (H : Hp) (y : V) (tb : Value) : Prop := TyX K H y tb ∨ ∃ b C dy ws, y = .ref b ∧ SlX.Slt H b C dy ws ∧ tb = .ref C
theorem tyY_looks {pins : List (Addr × Obj)} {σ : L2.St} {H : Hp} {s : Shared} {y : V} {u tb : Value} (I : Inv X pins σ H s) (ry : RelV y u) (h : TyY X.K H y tb) : PySem.W.Looks (model X.prog X.w) s.heap (typeOf u) tb := by
  rcases h with h | ⟨b, C, dy, ws, rfl, h, rfl⟩
  · obtain ⟨P, Z, hP, _⟩ := kit_of I ry h
    exact Z.ty _ _ I.kIn hP
  · cases (show u = Value.ref b from ry)
    obtain ⟨sl, od, _, J, _⟩ := SlX.slt_inst I h
    exact J.type
def rCm (K : PySem.W.Frag) (C : Addr) (sp : Sp) (E : XK) : R2 := fun x y H Q => ∃ a dx vs tb, x = .ref a ∧ SlX.Slt H a C dx vs ∧ TyY K H y tb ∧ PySem.W.notFirst K C tb = true ∧ sp [x, y] H Q E
structure FCm (P : Program) (w : World) (K : PySem.W.Frag) (mg : Str → Option Value) (base : Heap) (cl : Nat → Addr) (k c n : Nat) (op : CmpOp) (m : MF) : Prop where
  ok : ∃ g, PySem.W.findIn K (.ref (cl c)) (cmpInfo op).2.1 = some (some (.ref g)) ∧ PySem.W.isFn K (.ref g) = true ∧ FA P w K mg base cl k g 2 m
  nf : ∀ t : String, (t = "NoneType" ∨ t = "bool" ∨ t = "int" ∨ t = "str" ∨ t = "tuple" ∨ t = "list") → PySem.W.notFirst K (cl c) (.type t) = true
  nc : ∀ c', c' < n → PySem.W.notFirst K (cl c) (.ref (cl c')) = true
theorem FCm.cx {op : CmpOp} (S : FCm P w K mg base cl k c n op mf) : FCm P w K mg base cl k c n op (callX mf) := by
  obtain ⟨⟨g, h1, h2, h3⟩, h4, h5⟩ := S
  exact ⟨⟨g, h1, h2, h3.x⟩, h4, h5⟩
/-- whether it may stand on the right -/
@[simp] def rhsOk (n : Nat) : R → Bool
  | .dat (.ins c _) => decide (c < n)
  | .dat d => (tag [] (.dat d)).isSome
  | _ => false
@[simp] def gCm (c n : Nat) (f : MF) : G2
  | .dat (.ins c1 xs), y, μ => if c1 = c ∧ rhsOk n y = true then f [.dat (.ins c1 xs), y] μ else none
  | _, _, _ => none
theorem rhs_ok {F H H0 : Hp} {α : List Addr} {μ : Mu} {y : V} {ry : R} {op : CmpOp} (S : FCm P w K mg base cl k c n op mf) (C : Conc K cl F α μ H) (h : RepR K cl H0 F α H y ry) (q : rhsOk n ry = true) : ∃ tb, TyY K H y tb ∧ PySem.W.notFirst K (cl c) tb = true ∧ ArgR K cl F α y ry := by
  cases ry with
  | no => cases q
  | cel k => cases q
  | fr xs => cases q
  | fc c' => cases q
  | dat d =>
    cases d with
    | ins c' xs =>
      have q : decide (c' < n) = true := q
      have h' : Rep K cl F y (.ins c' xs) := h
      cases h with
      | ins hs hq hr => exact ⟨_, .inr ⟨_, _, _, _, rfl, Same.slt C.sub hs, rfl⟩, S.nc c' (of_decide_eq_true q), h'⟩
    | scr _ => cases q
    | exc _ _ _ => cases q
    | dk _ _ => cases q
    | dt _ _ => cases q
    | non => exact ⟨_, .inl (tag_ok C h rfl).1, S.nf _ (by simp), h⟩
    | bl _ => exact ⟨_, .inl (tag_ok C h rfl).1, S.nf _ (by simp), h⟩
    | int _ => exact ⟨_, .inl (tag_ok C h rfl).1, S.nf _ (by simp), h⟩
    | str _ => exact ⟨_, .inl (tag_ok C h rfl).1, S.nf _ (by simp), h⟩
    | tup _ => exact ⟨_, .inl (tag_ok C h rfl).1, S.nf _ (by simp), h⟩
    | lst _ => exact ⟨_, .inl (tag_ok C h rfl).1, S.nf _ (by simp), h⟩
theorem semG_Cm {op : CmpOp} (S : FCm P w K mg base cl k c n op mf) : OpSemG K cl (rCm K (cl c) (spM K cl 2 mf) E0) (gCm c n mf) := by
  intro F α μ μ' H H0 x y rx ry z Q C q1 q2 hz kk
  unfold gCm at hz
  split at hz
  · rename_i c1 xs
    split at hz
    · rename_i hc
      obtain ⟨rfl, hc⟩ := hc
      obtain ⟨tb, t1, t2, t3⟩ := rhs_ok S C q2 hc
      have hsp : spM K cl 2 mf [x, y] H Q E0 := ⟨F, α, μ, _, z, μ', rfl, C, .cons (argD q1) (.cons t3 .nil), hz, kk⟩
      cases q1 with
      | ins hs1 hq1 hr1 => exact ⟨_, _, _, tb, rfl, Same.slt C.sub hs1, t1, t2, hsp⟩
    · cases hz
  · cases hz
theorem cmpI {op : CmpOp} (hop : ∀ a b, compareOp op a b = richCompare op a b) (S : FCm X.prog X.w X.K X.mg X.base cl k c n op mf) (hr : Room j X.A) (hk : k ≤ j) : CmpG X cl op (gCm c n mf) := by
  refine ⟨_, ?_, semG_Cm S⟩
  obtain ⟨⟨g, h1, h2, h3⟩, _, _⟩ := S
  intro pins s σ H x y v u Q I rx ry h
  obtain ⟨a, dx, vs, tb, rfl, ha, ht, hn, q⟩ := h
  cases (show v = Value.ref a from rx)
  obtain ⟨sl, od, _, J, _⟩ := SlX.slt_inst I ha
  obtain ⟨m, hF⟩ := I.fr
  rw [hop]
  refine PySem.W.cmp_K (op := op) (tb := tb) hr.units0 hF I.ok.mod.kin J (tyY_looks I ry ht) hn h1 h2 ?_
  refine wpAny_mono (wpAny_call (run_fnR (us := [.ref a, u]) (vs := [.ref a, y]) h3.raw (hr.mono hk) pass0 I (.cons rfl (.cons ry .nil)) q)) (fun w s' z => ?_) fun _ _ x => x
  obtain ⟨z', H', I', rz, qz⟩ := z
  exact SlX.cmpback rz ⟨z', H', I', rz, qz⟩
/-- number op instance: the instance's own def for the op turned about -/
structure FRm (P : Program) (w : World) (K : PySem.W.Frag) (mg : Str → Option Value) (base : Heap) (cl : Nat → Addr) (k c : Nat) (op : CmpOp) (m : MF) : Prop where
  ok : ∃ g, PySem.W.findIn K (.ref (cl c)) (cmpInfo op).2.2 = some (some (.ref g)) ∧ PySem.W.isFn K (.ref g) = true ∧ FA P w K mg base cl k g 2 m
  sb : PySem.W.subIn K (.ref (cl c)) (.type "int") = some false
theorem FRm.cx {op : CmpOp} (S : FRm P w K mg base cl k c op mf) : FRm P w K mg base cl k c op (callX mf) := by
  obtain ⟨⟨g, h1, h2, h3⟩, h4⟩ := S
  exact ⟨⟨g, h1, h2, h3.x⟩, h4⟩
theorem cmpN {op : CmpOp} {idl : String} (hop : ∀ a b, compareOp op a b = richCompare op a b) (hl : Slot "int" (cmpInfo op).2.1 idl) (hd : Dec idl) (S : FRm X.prog X.w X.K X.mg X.base cl k c op mf) (hr : Room j X.A) (hk : k ≤ j) : CmpG X cl op (gNI c mf) := by
  obtain ⟨⟨g, h1, h2, h3⟩, h4⟩ := S
  refine ⟨rNI (cl c) (spM X.K cl 2 mf) E0, ?_, ?_⟩
  · intro pins s σ H x y v u Q I rx ry h
    obtain ⟨a, dx, vs, i, rfl, rfl, ha, q⟩ := h
    cases (show u = Value.ref a from ry)
    obtain ⟨t, rfl⟩ := (show ∃ t, v = Value.int i t from rx)
    obtain ⟨sl, od, _, J, _⟩ := SlX.slt_inst I ha
    obtain ⟨m, hF⟩ := I.fr
    rw [hop]
    refine cmp_R hr.units0 hF I.ok.mod.kin J h1 h2 hl hd h4 ?_
    refine wpAny_mono (wpAny_call (run_fnR (us := [.ref a, .int i t]) (vs := [.ref a, .int i]) h3.raw (hr.mono hk) pass0 I (.cons rfl (.cons ⟨t, rfl⟩ .nil)) q)) (fun w s' z => ?_) fun _ _ x => x
    obtain ⟨z', H', I', rz, qz⟩ := z
    exact SlX.cmpback rz ⟨z', H', I', rz, qz⟩
  · intro F α μ μ' H H0 x y rx ry z Q C q1 q2 hz kk
    unfold gNI at hz
    split at hz
    · rename_i i c2 ys
      split at hz
      · rename_i hc
        subst hc
        have hsp : spM X.K cl 2 mf [y, x] H Q E0 := ⟨F, α, μ, _, z, μ', rfl, C, .cons (argD q2) (.cons (argD q1) .nil), hz, kk⟩
        cases q2 with
        | ins hs1 hq1 hr1 =>
          cases q1
          exact ⟨_, _, _, _, rfl, rfl, Same.slt C.sub hs1, hsp⟩
      · cases hz
    · cases hz
end
end DL
set_option Elab.async false
set_option linter.all false
set_option maxRecDepth 100000
set_option maxHeartbeats 1000000

namespace DL
open PySem PySem.Spec PyProof.Rows L2
section
variable {X : Cx} {cl : Nat → Addr} {e o a b tg : Expr} {es : List Expr} {m mo ma mb : ME} {ms mk : MA} {pos p apos : Pos} {K : PySem.W.Frag} {f g C : Addr} {n np nk k j c : Nat} {mf : MF} {nm y : Str} {P : Program} {w : World} {mg : Str → Option Value} {base : Heap} {r r' : R2} {g1 g2 : G2}
structure FNe (P : Program) (w : World) (K : PySem.W.Frag) (mg : Str → Option Value) (base : Heap) (cl : Nat → Addr) (k c n : Nat) (m : MF) : Prop where
  eq : FCm P w K mg base cl k c n .Eq m
  ne : PySem.W.findIn K (.ref (cl c)) "__ne__" = some (some (.builtin "object.__ne__"))
  mr : PySem.W.mroIn K (cl c) (.type "object") = some true
theorem FNe.cx (S : FNe P w K mg base cl k c n mf) : FNe P w K mg base cl k c n (callX mf) := ⟨S.eq.cx, S.ne, S.mr⟩
@[simp] def gNe (c n : Nat) (f : MF) : G2
  | .dat (.ins c1 xs), y, μ => if c1 = c ∧ rhsOk n y = true then match f [.dat (.ins c1 xs), y] μ with
      | some (.dat (.bl b), μ') => some (.dat (.bl (!b)), μ')
      | _ => none
    else none
  | _, _, _ => none
def rNe' (K : PySem.W.Frag) (C : Addr) (sp : Sp) (E : XK) : R2 := fun x y H Q => ∃ a dx vs tb, x = .ref a ∧ SlX.Slt H a C dx vs ∧ TyY K H y tb ∧ PySem.W.notFirst K C tb = true ∧ sp [x, y] H (fun v H' => ∃ b, v = .bl b ∧ Q (.bl (!b)) H') E
structure FP (P : Program) (w : World) (K : PySem.W.Frag) (mg : Str → Option Value) (base : Heap) (cl : Nat → Addr) (k c : Nat) (x : Str) (m : MF) : Prop where
  s : SlX.SCls K (cl c)
  ok : ∃ p g : Addr, PySem.W.findIn K (.ref (cl c)) x = some (some (.ref p)) ∧ PySem.W.specialIn K (.ref p) "__get__" = some (some (.builtin "property.__get__")) ∧ PySem.W.takesIn K (.ref p) = some true ∧ (∃ rest, PySem.W.recIn K p "property" = some (.ref g :: rest)) ∧ FA P w K mg base cl k g 1 m
theorem FP.cx {x : Str} (S : FP P w K mg base cl k c x mf) : FP P w K mg base cl k c x (callX mf) := by
  obtain ⟨s, p, g, h1, h2, h3, h4, h5⟩ := S
  exact ⟨s, p, g, h1, h2, h3, h4, h5.x⟩
@[simp] def mProp (c : Nat) (f : MF) (m : ME) : ME := fun δ μ => match m δ μ with
  | some (.dat (.ins c' xs), μ1) => if c' = c then f [.dat (.ins c' xs)] μ1 else none
  | _ => none
@[simp] def mPar3 (ci cj cl' : Bool) (i j l : Nat) (ma mb mc : ME) : MS := fun δ μ => match ma δ μ with
  | none => none
  | some (x, μ1) => match mb δ μ1 with
    | none => none
    | some (y, μ2) => match mc δ μ2 with
      | none => none
      | some (z, μ3) => match stR ci i x δ μ3 with
        | none => none
        | some (δ1, μ4) => match stR cj j y δ1 μ4 with
          | none => none
          | some (δ2, μ5) => match stR cl' l z δ2 μ5 with
            | none => none
            | some (δ3, μ6) => some (.nx δ3 μ6)
end
section
variable {X : Cx} {cl : Nat → Addr} {e o a b tg : Expr} {es : List Expr} {m mo ma mb : ME} {ms mk : MA} {pos p apos : Pos} {K : PySem.W.Frag} {f g C : Addr} {n np nk k j c : Nat} {mf : MF} {ks : List Str} {is : List Nat} {kws : List Keyword} {P : Program} {w : World} {mg : Str → Option Value} {base : Heap} {CX : CXT} {sp : Sp} {E : XK} {to : TE} {t tk : TA}

structure FCK (P : Program) (w : World) (K : PySem.W.Frag) (mg : Str → Option Value) (base : Heap) (cl : Nat → Addr) (k c : Nat) (n : Nat) (m : MF) (np : Nat) (ks : List Str) (is : List Nat) : Prop where
  ok : ∃ g, StX.CallO K (cl c) g ∧ FAK P w K mg base cl k g n m np ks is
theorem FCK.x (S : FCK P w K mg base cl k c n mf np ks is) : FCK P w K mg base cl k c n (callX mf) np ks is := by
  obtain ⟨g, h1, h2⟩ := S
  exact ⟨g, h1, h2.cx⟩
def tCallOK (C : Addr) (np nk : Nat) (sp : Sp) (gV : List V → List V → List V) (E : XK) (to : TE) (tk : TA) : TE := fun σ H Q => to σ H fun z H1 => ∃ a dx vs, z = .ref a ∧ SlX.Slt H1 a C dx vs ∧ tk σ H1 fun zs H3 => [z].length = np ∧ zs.length = nk ∧ (∃ dx vs, SlX.Slt H3 a C dx vs) ∧ sp (gV [z] zs) H3 Q E
end
end DL
set_option Elab.async false
set_option linter.all false
set_option maxRecDepth 100000
set_option maxHeartbeats 1000000

namespace DL
open PySem PySem.Spec PyProof.Rows L2
section
variable {X : Cx} {cl : Nat → Addr} {e o a b tg : Expr} {es : List Expr} {m mo ma mb : ME} {ms mk : MA} {pos p apos : Pos} {K : PySem.W.Frag} {n k j c : Nat}
/-- (a, b, ..) = a tuple or a list of that length -/
def gSeq (K : PySem.W.Frag) (n : Nat) (t : TGs) : TG := fun v σ H Q => ∃ a xs, v = .ref a ∧ (SqT K H a xs ∨ SqL K H a xs) ∧ xs.length = n ∧ t xs σ H Q
@[simp] def tgAll : List TGT → List D → Sl → Option Sl
  | [], [], δ => some δ
  | t :: ts, x :: xs, δ => match t x δ with
    | some δ1 => tgAll ts xs δ1
    | none => none
  | _, _, _ => none
@[simp] def tgTup (ts : List TGT) : TGT := fun d δ => match d with
  | .tup xs => tgAll ts xs δ
  | .lst xs => tgAll ts xs δ
  | _ => none
def TgsSem (K : PySem.W.Frag) (cl : Nat → Addr) (g : TGs) (ts : List TGT) (vs : List Nat) : Prop := ∀ (F : Hp) (α : List Addr) (σ : L2.St) (δ δ' : Sl) (H : Hp) (us : List V) (ds : List D) (Q : L2.St → Hp → Prop), Same F H → EnvOk K cl F α σ δ → Reps K cl F us ds → tgAll ts ds δ = some δ' →
  (∀ σ', EnvOk K cl F α σ' δ' → wipe σ' vs = wipe σ vs → Q σ' H) → g us σ H Q
abbrev SGs (X : Cx) (cl : Nat → Addr) (es : List Expr) (g : TGs) (ts : List TGT) (vs : List Nat) : Prop := PGs X es g ∧ TgsSem X.K cl g ts vs
end
end DL
namespace DL
open PySem
theorem notFirst_of {K : PySem.W.Frag} {C : Addr} {tb : Value} (h : PySem.W.subIn K tb (.ref C) = some false) : PySem.W.notFirst K C tb = true := by
  unfold PySem.W.notFirst
  rw [h]
  simp
theorem notFirst_self {K : PySem.W.Frag} {C : Addr} : PySem.W.notFirst K C (.ref C) = true := by
  unfold PySem.W.notFirst
  simp
end DL
namespace DL
open PySem PySem.Spec PyProof.Rows L2
end DL
namespace DL
open PySem
end DL
set_option Elab.async false
set_option linter.all false
set_option maxRecDepth 100000
set_option maxHeartbeats 1000000

namespace DL
open PySem PySem.Spec PyProof.Rows L2
mutual
def lfree : D → Bool
  | .non => true
  | .bl _ => true
  | .int _ => true
  | .str _ => true
  | .tup xs => lfrees xs
  | .lst _ => false
  | .scr _ => false
  | .ins _ xs => lfrees xs
  | .exc _ _ _ => false
  | .dk _ _ => false
  | .dt _ _ => false
def lfrees : List D → Bool
  | [] => true
  | x :: xs => lfree x && lfrees xs
end
@[simp] def lfR : R → Bool
  | .dat d => lfree d
  | .fr xs => lfrees xs
  | _ => false
/-- the arguments at some places, where they are cells, as data; and which cells that were -/
@[simp] def viewAt (μ : Mu) : List Bool → List R → Option (List R × List Nat)
  | true :: ps, .cel k :: rs => match μ[k]?, viewAt μ ps rs with
    | some (.l xs), some (rs', ks) => some (.dat (.lst xs) :: rs', k :: ks)
    | _, _ => none
  | _ :: ps, r :: rs => match viewAt μ ps rs with
    | some (rs', ks) => some (r :: rs', ks)
    | none => none
  | _, [] => some ([], [])
  | [], _ => none
@[simp] def callV (ps : List Bool) (f : MF) : MF := fun rs μ => match viewAt μ ps rs with
  | none => none
  | some (rs', ks) => match cellsIn rs' with
    | [] => match f rs' [] with
      | some (r, []) => if lfR r = true then some (r, μ) else none
      | _ => none
    | [k] => if ks.contains k then none else match μ[k]? with
      | some (.l xs) => match f (reCel rs') [.l xs] with
        | some (r, [.l ys]) => if lfR r && lfrees ys then some (r, μ.set k (.l ys)) else none
        | _ => none
      | _ => none
    | _ => none
section
variable {K : PySem.W.Frag} {cl : Nat → Addr}
def cutF (F : Hp) (V : List Addr) : Hp := fun b => if b ∈ V then none else F b
theorem cutF_out {F : Hp} {V : List Addr} {b : Addr} (h : b ∉ V) : cutF F V b = F b := if_neg h
theorem cutF_in {F : Hp} {V : List Addr} {b : Addr} (h : b ∈ V) : cutF F V b = none := if_pos h
theorem cutF_some {F : Hp} {V : List Addr} {b : Addr} {o : HO} (h : cutF F V b = some o) : b ∉ V ∧ F b = some o := by
  unfold cutF at h
  split at h
  · cases h
  · exact ⟨by assumption, h⟩
mutual
theorem rep_cut {F : Hp} {W : List Addr} (hV : ∀ b ∈ W, ∃ us, F b = some (.lst us)) : ∀ {v : V} {d : D}, Rep K cl F v d → lfree d = true → Rep K cl (cutF F W) v d
  | _, _, .non, _ => .non
  | _, _, .bl b, _ => .bl b
  | _, _, .int i, _ => .int i
  | _, _, .str x, _ => .str x
  | _, _, .tup h r, l => by
    refine .tup ?_ (reps_cut hV r l)
    rcases h with (h | ⟨o, h⟩) | h
    · refine .inl (.inl ?_)
      rw [cutF_out fun z => ?_]
      · exact h
      · obtain ⟨us, e⟩ := hV _ z
        rw [h] at e
        cases e
    · refine .inl (.inr ⟨o, ?_⟩)
      rw [cutF_out fun z => ?_]
      · exact h
      · obtain ⟨us, e⟩ := hV _ z
        rw [h] at e
        cases e
    · exact .inr h
  | _, _, .lst h r, l => by cases l
  | _, _, .scr h, l => by cases l
  | _, _, .exc0 _, l => by cases l
  | _, _, .exc _ _ _ _, l => by cases l
  | _, _, .dk _ _ _, l => by cases l
  | _, _, .dt _ _ _, l => by cases l
  | _, _, .ins (dx := dx) h q r, l => by
    have nn : ∀ {b : Addr} {o : HO}, F b = some o → (∀ us, o ≠ .lst us) → cutF F W b = some o := fun {b o} h1 h2 => by
      rw [cutF_out fun z => ?_]
      · exact h1
      · obtain ⟨us, e⟩ := hV _ z
        rw [h1] at e
        cases e
        exact h2 _ rfl
    refine .ins ?_ (nn q fun us z => by unfold SlX.SlO at z; cases z) (reps_cut hV r l)
    rcases h with ⟨h1, h2⟩ | ⟨h1, h2⟩
    · exact .inl ⟨nn h1 (fun us z => by cases z), h2⟩
    · exact .inr ⟨nn h1 (fun us z => by unfold SlX.SlO at z; cases z), nn h2 (fun us z => by cases z)⟩
theorem reps_cut {F : Hp} {W : List Addr} (hV : ∀ b ∈ W, ∃ us, F b = some (.lst us)) : ∀ {vs : List L2.V} {ds : List D}, Reps K cl F vs ds → lfrees ds = true → Reps K cl (cutF F W) vs ds
  | _, _, .nil, _ => .nil
  | _, _, .cons r q, l => by
    have l' := Bool.and_eq_true_iff.mp (show (lfree _ && lfrees _) = true from l)
    exact .cons (rep_cut hV r l'.1) (reps_cut hV q l'.2)
end
/-- the frozen part with some cells frozen too -/
def viewF (F H : Hp) (W : List Addr) : Hp := fun b => if b ∈ W then H b else F b
theorem viewF_out {F H : Hp} {W : List Addr} {b : Addr} (h : b ∉ W) : viewF F H W b = F b := if_neg h
theorem viewF_in {F H : Hp} {W : List Addr} {b : Addr} (h : b ∈ W) : viewF F H W b = H b := if_pos h
theorem view_args {F H : Hp} {α : List Addr} {μ : Mu} (C : Conc K cl F α μ H) {W : List Addr} (hW : ∀ b ∈ W, b ∈ α) : ∀ {ps : List Bool} {vs : List V} {rs rs' : List R} {ks : List Nat}, ArgRs K cl F α vs rs → viewAt μ ps rs = some (rs', ks) → (∀ k ∈ ks, ∀ a, α[k]? = some a → a ∈ W) → ArgRs K cl (viewF F H W) α vs rs' := by
  have sm : Same F (viewF F H W) := fun b o h => by
    rw [viewF_out fun z => ?_]
    · exact h
    · rw [C.out b (hW b z)] at h
      cases h
  have stay : ∀ {v : V} {r : R}, ArgR K cl F α v r → ArgR K cl (viewF F H W) α v r := fun {v r} h => by
    cases r with
    | no => exact h
    | dat d => exact Rep.mono sm h
    | cel k => exact h
    | fr xs => exact h
    | fc c => exact h
  intro ps
  induction ps with
  | nil =>
    intro vs rs rs' ks ha h hk
    cases ha with
    | nil =>
      cases h
      exact .nil
    | cons _ _ => simp [viewAt] at h
  | cons p ps ih =>
    intro vs rs rs' ks ha h hk
    cases ha with
    | nil =>
      simp [viewAt] at h
      obtain ⟨rfl, rfl⟩ := h
      exact .nil
    | cons r q =>
      rename_i v r0 vs rs
      have other : (∀ k, ¬ (p = true ∧ r0 = .cel k)) → viewAt μ (p :: ps) (r0 :: rs) = match viewAt μ ps rs with
        | some (rs', ks) => some (r0 :: rs', ks)
        | none => none := fun hn => by
        cases p with
        | false => rfl
        | true => cases r0 with
          | cel k => exact absurd ⟨rfl, rfl⟩ (hn k)
          | no => rfl
          | dat d => rfl
          | fr xs => rfl
          | fc c => rfl
      by_cases hc : ∃ k, p = true ∧ r0 = .cel k
      · obtain ⟨k, rfl, rfl⟩ := hc
        unfold viewAt at h
        split at h
        · rename_i xs rs2 ks2 e1 e2
          cases h
          obtain ⟨a, h1, rfl⟩ := r
          obtain ⟨us, h2, h3⟩ := C.cell k a _ h1 e1
          refine .cons (show Rep K cl _ _ _ from .lst (vs := us) ?_ (h3.mono sm)) (ih q e2 fun k' hk' => hk k' (List.mem_cons_of_mem _ hk'))
          rw [viewF_in (hk k List.mem_cons_self a h1)]
          exact h2
        · cases h
      · rw [other fun k z => hc ⟨k, z⟩] at h
        split at h
        · rename_i rs2 ks2 e2
          cases h
          exact .cons (stay r) (ih q e2 hk)
        · cases h
theorem viewAt_l {μ : Mu} : ∀ {ps : List Bool} {rs rs' : List R} {ks : List Nat}, viewAt μ ps rs = some (rs', ks) → ∀ k ∈ ks, ∃ xs, μ[k]? = some (.l xs) := by
  intro ps
  induction ps with
  | nil =>
    intro rs rs' ks h
    cases rs with
    | nil =>
      cases h
      intro k hk
      cases hk
    | cons r rs => simp [viewAt] at h
  | cons p ps ih =>
    intro rs rs' ks h
    cases rs with
    | nil =>
      simp [viewAt] at h
      obtain ⟨rfl, rfl⟩ := h
      intro k hk
      cases hk
    | cons r0 rs =>
      have other : (match viewAt μ ps rs with
        | some (rs', ks) => some (r0 :: rs', ks)
        | none => none) = some (rs', ks) → ∀ k ∈ ks, ∃ xs, μ[k]? = some (.l xs) := fun h => by
        split at h
        · rename_i rs2 ks2 e2
          cases h
          exact ih e2
        · cases h
      cases p with
      | false => exact other h
      | true => cases r0 with
        | no => exact other h
        | dat d => exact other h
        | fr xs => exact other h
        | fc c => exact other h
        | cel k =>
          unfold viewAt at h
          split at h
          · rename_i xs rs2 ks2 e1 e2
            cases h
            intro j hj
            rcases List.mem_cons.mp hj with rfl | hj
            · exact ⟨xs, e1⟩
            · exact ih e2 j hj
          · cases h
theorem callV_sp {n : Nat} {ps : List Bool} {f : MF} {vs : List V} {H : Hp} {Q : VK} {E : XK} (h : spM K cl n (callV ps f) vs H Q E) : spM K cl n f vs H Q E := by
  obtain ⟨F, α, μ, rs, r, μ', hl, C, ha, hm, k⟩ := h
  unfold callV at hm
  split at hm
  · cases hm
  rename_i rs' ks hv
  let W : List Addr := ks.filterMap fun k => α[k]?
  have hW : ∀ b ∈ W, b ∈ α := fun b hb => by
    obtain ⟨k, _, hk⟩ := List.mem_filterMap.mp hb
    exact List.mem_of_getElem? hk
  have hkW : ∀ k ∈ ks, ∀ a, α[k]? = some a → a ∈ W := fun k hk a ha => List.mem_filterMap.mpr ⟨k, hk, ha⟩
  have va := view_args C hW ha hv hkW
  have sm : Same F (viewF F H W) := fun b o h => by
    rw [viewF_out fun z => ?_]
    · exact h
    · rw [C.out b (hW b z)] at h
      cases h
  have sub : Same (viewF F H W) H := fun b o h => by
    by_cases z : b ∈ W
    · rw [viewF_in z] at h
      exact h
    · rw [viewF_out z] at h
      exact C.sub b o h
  have new : ∀ b, H b = none → b ∉ α := fun b hb z => by
    obtain ⟨ws, g7⟩ := cell_some C z
    rw [hb] at g7
    cases g7
  -- what holds behind the call, whatever cells it was handed
  have back : ∀ (β : List Addr) (F' H' : Hp), (∀ b ∈ β, b ∈ α ∧ b ∉ W) → Evo (viewF F H W) β H F' β H' → Same F' H' →
      Same F (cutF F' W) ∧ (∀ b o, F b = none → cutF F' W b = some o → H b = none) ∧ (∀ b, b ∈ α → cutF F' W b = none) ∧ (∀ b ∈ W, ∃ us, F' b = some (.lst us)) ∧ Same (cutF F' W) H' := by
    intro β F' H' hβ e sm'
    refine ⟨fun b o h => ?_, fun b o h q => ?_, fun b hb => ?_, fun b hb => ?_, fun b o h => sm' b o (cutF_some h).2⟩
    · rw [cutF_out fun z => ?_]
      · exact e.ff b o (sm b o h)
      · rw [C.out b (hW b z)] at h
        cases h
    · obtain ⟨q1, q2⟩ := cutF_some q
      exact e.fre b o (by rw [viewF_out q1]; exact h) q2
    · by_cases z : b ∈ W
      · exact cutF_in z
      · rw [cutF_out z]
        cases q : F' b with
        | none => rfl
        | some o =>
          obtain ⟨us, h⟩ := cell_some C hb
          have := e.fre b o (by rw [viewF_out z]; exact C.out b hb) q
          rw [h] at this
          cases this
    · obtain ⟨k', hk', e'⟩ := List.mem_filterMap.mp hb
      obtain ⟨xs, hx⟩ := viewAt_l hv k' hk'
      obtain ⟨us, h, _⟩ := C.cell k' b _ e' hx
      exact ⟨us, e.ff b _ (by rw [viewF_in hb]; exact h)⟩
  split at hm
  · rename_i e0
    split at hm
    · rename_i r1 h1
      split at hm
      · rename_i hp
        cases hm
        refine ⟨viewF F H W, [], [], rs', r, [], hl, ⟨sub, rfl, List.nodup_nil, fun _ _ _ h => by simp at h, fun _ h => by simp at h⟩, args_none va e0, h1, fun v F' H' e c q => ?_⟩
        obtain ⟨b1, b2, b3, b4, b5⟩ := back [] F' H' (by simp) e c.sub
        refine k v (cutF F' W) H' ⟨b1, ⟨[], by simp⟩, fun b o hb _ => e.hh b o hb (by simp), e.dom, b2, fun b hb z => absurd hb z, e.frz⟩ ⟨b5, C.len, C.nd, fun j b xs q1 q2 => ?_, b3⟩ ?_
        · have g := C.cell j b xs q1 q2
          obtain ⟨u, g1⟩ := g.some
          rw [e.hh b _ g1 (by simp), ← g1]
          exact g.monoF b1
        · cases r with
          | dat d => exact rep_cut b4 q hp
          | fr xs =>
            obtain ⟨a, us, g1, g2, g3, g4, g5, g6⟩ := q
            refine ⟨a, us, g1, g2, ?_, new a g2, g5, reps_cut b4 g6 hp⟩
            unfold cutF
            split
            · rfl
            · exact g3
          | no => cases hp
          | fc c => cases hp
          | cel j => cases hp
      · cases hm
    · cases hm
  · rename_i j e0
    split at hm
    · cases hm
    rename_i hj0
    split at hm
    · rename_i xs e1
      split at hm
      · rename_i r1 ys h1
        split at hm
        · rename_i hp
          cases hm
          obtain ⟨hp1, hp2⟩ := Bool.and_eq_true_iff.mp hp
          have hj : j < α.length := by rw [C.len]; exact (List.getElem?_eq_some_iff.mp e1).1
          have ja : α[j]? = some α[j] := List.getElem?_eq_getElem hj
          have jin : α[j] ∈ α := List.getElem_mem hj
          have jW : α[j] ∉ W := fun z => by
            obtain ⟨k', hk', e'⟩ := List.mem_filterMap.mp z
            have := nd_ix C.nd ja e'
            subst this
            exact hj0 (List.contains_iff_mem.mpr hk')
          refine ⟨viewF F H W, [α[j]], [.l xs], reCel rs', r, [.l ys], hl, ⟨sub, rfl, by simp, fun i b zs q1 q2 => ?_, fun b hb => ?_⟩, args_one ja va (fun i hi => by rw [e0] at hi; simpa using hi), h1, fun v F' H' e c q => ?_⟩
          · cases i with
            | zero =>
              simp at q1 q2
              subst q1 q2
              obtain ⟨us, g1, g2⟩ := C.cell j _ _ ja e1
              exact ⟨us, g1, g2.mono sm⟩
            | succ i => simp at q1
          · rw [List.mem_singleton.mp hb, viewF_out jW]
            exact C.out _ jin
          · obtain ⟨b1, b2, b3, b4, b5⟩ := back [α[j]] F' H' (fun b hb => by rw [List.mem_singleton.mp hb]; exact ⟨jin, jW⟩) e c.sub
            refine k v (cutF F' W) H' ⟨b1, ⟨[], by simp⟩, fun b o hb nb => e.hh b o hb (fun z => nb (by rw [List.mem_singleton.mp z]; exact jin)), e.dom, b2, fun b hb z => absurd hb z, e.frz⟩ ⟨b5, by simp [C.len], C.nd, fun i b zs q1 q2 => ?_, b3⟩ ?_
            · by_cases hij : j = i
              · subst hij
                rw [ja] at q1
                cases q1
                rw [List.getElem?_set_self (by rw [← C.len]; exact hj)] at q2
                cases q2
                obtain ⟨us, g1, g2⟩ := c.cell 0 _ _ rfl rfl
                exact ⟨us, g1, reps_cut b4 g2 hp2⟩
              · rw [List.getElem?_set_ne hij] at q2
                have g := C.cell i b zs q1 q2
                obtain ⟨u, g1⟩ := g.some
                rw [e.hh b _ g1 (fun z => hij ?_), ← g1]
                · exact g.monoF b1
                · rw [List.mem_singleton.mp z] at q1
                  exact nd_ix C.nd ja q1
            · cases r with
              | dat d => exact rep_cut b4 q hp1
              | fr xs =>
                obtain ⟨a, us, g1, g2, g3, g4, g5, g6⟩ := q
                refine ⟨a, us, g1, g2, ?_, new a g2, g5, reps_cut b4 g6 hp1⟩
                unfold cutF
                split
                · rfl
                · exact g3
              | no => cases hp1
              | fc c => cases hp1
              | cel j => cases hp1
        · cases hm
      · cases hm
    · cases hm
  · cases hm
theorem viewAt_len {μ : Mu} : ∀ {ps : List Bool} {rs rs' : List R} {ks : List Nat}, viewAt μ ps rs = some (rs', ks) → rs'.length = rs.length := by
  intro ps
  induction ps with
  | nil =>
    intro rs rs' ks h
    cases rs with
    | nil => cases h; rfl
    | cons _ _ => simp [viewAt] at h
  | cons p ps ih =>
    intro rs rs' ks h
    cases rs with
    | nil =>
      simp [viewAt] at h
      rw [h.1]
    | cons r rs =>
      cases p with
      | true =>
        cases r with
        | cel k =>
          dsimp only [viewAt] at h
          split at h
          · rename_i e
            cases h
            simp [ih e]
          · cases h
        | no =>
          dsimp only [viewAt] at h
          split at h
          · rename_i e
            cases h
            simp [ih e]
          · cases h
        | dat d =>
          dsimp only [viewAt] at h
          split at h
          · rename_i e
            cases h
            simp [ih e]
          · cases h
        | fc c =>
          dsimp only [viewAt] at h
          split at h
          · rename_i e
            cases h
            simp [ih e]
          · cases h
        | fr xs =>
          dsimp only [viewAt] at h
          split at h
          · rename_i e
            cases h
            simp [ih e]
          · cases h
      | false =>
        dsimp only [viewAt] at h
        split at h
        · rename_i e
          cases h
          simp [ih e]
        · cases h
theorem callV_ar {n : Nat} {ps : List Bool} {f : MF} (ar : ∀ rs μ z, f rs μ = some z → rs.length = n) : ∀ rs μ z, callV ps f rs μ = some z → rs.length = n := fun rs μ z h => by
  unfold callV at h
  split at h
  · cases h
  rename_i rs' ks hv
  rw [← viewAt_len hv]
  split at h
  · split at h
    · rename_i h1
      exact ar _ _ _ h1
    · cases h
  · split at h
    · cases h
    split at h
    · split at h
      · rename_i h1
        rw [← reCel_length]
        exact ar _ _ _ h1
      · cases h
    · cases h
  · cases h
variable {P : Program} {w : World} {mg : Str → Option Value} {base : Heap} {k n c np : Nat} {x : Str} {m : MF} {ps : List Bool} {ks : List Str} {is : List Nat} {f : Addr}
theorem FS.v (S : FS P w K mg base cl k x n m) (ps : List Bool) : FS P w K mg base cl k x n (callV ps m) := by
  obtain ⟨⟨f, fd, qs, F, h⟩, ar⟩ := S
  exact ⟨⟨f, fd, qs, F.imp fun vs H Q E h => callV_sp h, h⟩, callV_ar ar⟩
theorem FK.v (S : FK P w K mg base cl k x n m np ks is) (ps : List Bool) : FK P w K mg base cl k x n (callV ps m) np ks is := by
  obtain ⟨⟨f, fd, qs, F, h⟩, ar⟩ := S
  exact ⟨⟨f, fd, qs, F.imp fun vs H Q E h => callV_sp h, h⟩, callV_ar ar⟩
end
end DL
set_option Elab.async false
set_option linter.all false
set_option maxRecDepth 100000
set_option maxHeartbeats 1000000

namespace DL
open PySem PySem.Spec PyProof.Rows L2
structure FIK (P : Program) (w : World) (K : PySem.W.Frag) (mg : Str → Option Value) (base : Heap) (cl : Nat → Addr) (k c : Nat) (x : Str) (n : Nat) (mi : MIn) (np : Nat) (ks : List Str) (is : List Nat) : Prop where
  ok : ∃ (f : Addr) (fd : FuncData) (ps : List Str), Mk K (cl c) f ∧ FnOk P w K mg base CX0 k f fd ps (spI K cl c n mi) ∧ mg x = some (.ref (cl c)) ∧ KBn K fd ps (np + 1) ks (fun us ws => pick (0 :: is.map (· + 1)) (us ++ ws)) (fun us ws => pick (0 :: is.map (· + 1)) (us ++ ws))
  ar : ∀ rs μ z, mi rs μ = some z → rs.length + 1 = n
@[simp] def mMakeK (c : Nat) (mi : MIn) (np nk : Nat) (is : List Nat) (ms mk : MA) : ME := fun δ μ => match ms δ μ with
  | none => none
  | some (rs, μ1) => match mk δ μ1 with
    | none => none
    | some (zs, μ2) => if rs.length = np ∧ zs.length = nk then match mi (pick is (rs ++ zs)) μ2 with
        | none => none
        | some (ds, μ3) => some (.dat (.ins c ds), μ3)
      else none
section
variable {X : Cx} {cl : Nat → Addr} {e o a b tg : Expr} {es : List Expr} {m mo ma mb : ME} {ms mk : MA} {pos p apos : Pos} {K : PySem.W.Frag} {f g C : Addr} {n np nk k j c : Nat} {mf : MF} {mi : MIn} {ks : List Str} {is : List Nat} {kws : List Keyword} {P : Program} {w : World} {mg : Str → Option Value} {base : Heap} {nm : Str}
@[simp] def mUnG (f : Int → Int) (c : Nat) (mf : MF) (m : ME) : ME := fun δ μ => match m δ μ with
  | some (.dat (.int i), μ1) => some (.dat (.int (f i)), μ1)
  | some (.dat (.ins c' xs), μ1) => if c' = c then mf [.dat (.ins c' xs)] μ1 else none
  | _ => none
def rUn1 (C : Addr) (sp : Sp) (E : XK) : V → Hp → VK → Prop := fun x H Q => ∃ a dx vs, x = .ref a ∧ SlX.Slt H a C dx vs ∧ sp [x] H Q E
structure FU (P : Program) (w : World) (K : PySem.W.Frag) (mg : Str → Option Value) (base : Heap) (cl : Nat → Addr) (k c : Nat) (x : Str) (m : MF) : Prop where
  ok : ∃ g, PySem.W.findIn K (.ref (cl c)) x = some (some (.ref g)) ∧ PySem.W.isFn K (.ref g) = true ∧ FA P w K mg base cl k g 1 m
theorem FU.cx {x : Str} (S : FU P w K mg base cl k c x mf) : FU P w K mg base cl k c x (callX mf) := by
  obtain ⟨g, h1, h2, h3⟩ := S
  exact ⟨g, h1, h2, h3.x⟩
theorem UnR.or {f : Value → Sem Value} {r r' : V → Hp → VK → Prop} (h : UnR X f r) (h' : UnR X f r') : UnR X f (fun x H Q => r x H Q ∨ r' x H Q) := by
  intro pins s σ H x v Q I rx q
  rcases q with q | q
  · exact h pins s σ H x v Q I rx q
  · exact h' pins s σ H x v Q I rx q
end
end DL
namespace DL
open PySem PySem.Spec PyProof.Rows L2
open PySem.W in
section
variable {X : Cx} {cl : Nat → Addr} {e o a b tg : Expr} {es : List Expr} {m mo ma mb : ME} {ms mk : MA} {pos p apos : Pos} {K : PySem.W.Frag} {n np nk k j c : Nat} {mf : MF} {P : Program} {w : World} {mg : Str → Option Value} {base : Heap}
def rAbsA (C : Addr) (sp : Sp) (E : XK) : List V → Hp → VK → Prop := fun xs H Q => (∃ i, xs = [.int i] ∧ Q (.int (if i < 0 then -i else i)) H) ∨ ∃ a dx vs, xs = [.ref a] ∧ SlX.Slt H a C dx vs ∧ sp xs H Q E
@[simp] def mAbsG (c : Nat) (mf : MF) (m : ME) : ME := mUnG (fun i => if i < 0 then -i else i) c mf m
end
end DL
set_option Elab.async false
set_option linter.all false
set_option maxRecDepth 100000
set_option maxHeartbeats 1000000

namespace DL
open PySem L2
section
variable {X : Cx} {cl : Nat → Addr} {a b : Expr} {ma mb : ME} {pos : Pos} {K : PySem.W.Frag}
@[simp] def fIsB (neg : Bool) : R → R → Mu → Option R
  | .dat (.bl x), .dat (.bl y), _ => some (.dat (.bl (xor neg (decide (x = y)))))
  | _, _, _ => none
end
end DL
set_option Elab.async false
set_option linter.all false
set_option maxRecDepth 100000
set_option maxHeartbeats 1000000

namespace DL
open PySem PySem.Spec PyProof.Rows PySem.Calls L2
section
variable {M : Model} {A : Around} {E : Value → Shared → Prop} {s : Shared} {K : PySem.W.Frag} {x C L f : Addr} {h₀ : Heap} {m : Str → Option Value} {ox : Obj} {od : Option Obj} {prog : Program} {w : World} {nm T : String}
open PySem.W
def mroTwo (K : Frag) (C : Addr) : Bool := (clsIn K C).any fun cd => cd.mro == [.ref C, .type "object"]
end
section
variable {X : Cx} {cl : Nat → Addr} {e : Expr} {m : ME} {pos : Pos} {K : PySem.W.Frag} {k j c : Nat} {mf : MF} {P : Program} {w : World} {mg : Str → Option Value} {base : Heap} {g1 g2 : G2}
/-- the class number c has no in-place op -/
structure NoI (K : PySem.W.Frag) (cl : Nat → Addr) (c : Nat) (op : Operator) : Prop where
  mr : mroTwo K (cl c) = true
  h1 : PySem.W.findIn K (.ref (cl c)) (dunderI op.info.2) = some none
  h2 : PySem.W.findIn K (.type "object") (dunderI op.info.2) = some none
def IpG (X : Cx) (cl : Nat → Addr) (op : Operator) (g : G2) : Prop := ∃ r, OpR X (inplaceOp op) r ∧ OpSemG X.K cl r g
theorem IpG.or {op : Operator} (h : IpG X cl op g1) (h' : IpG X cl op g2) : IpG X cl op (gOr g1 g2) := by
  obtain ⟨r, h1, h2⟩ := h
  obtain ⟨r', h1', h2'⟩ := h'
  exact ⟨_, OpR.or h1 h1', semG_or h2 h2'⟩
@[simp] def mAugG (i : Nat) (g : G2) (m : ME) : MS := fun δ μ => match δ[i]? with
  | some (.dat x) => match m δ μ with
    | some (.dat y, μ1) => match g (.dat x) (.dat y) μ1 with
      | some (.dat z, μ2) => some (.nx (δ.set i (.dat z)) μ2)
      | _ => none
    | _ => none
  | _ => none
end
end DL
set_option Elab.async false
set_option linter.all false
set_option maxRecDepth 100000
set_option maxHeartbeats 1000000

namespace DL
open PySem PySem.Spec PyProof.Rows L2
def insI (a : Int) : List Int → List Int
  | [] => [a]
  | b :: r => if a ≤ b then a :: b :: r else b :: insI a r
def isort : List Int → List Int
  | [] => []
  | a :: r => insI a (isort r)
section
variable {X : Cx} {cl : Nat → Addr} {a : Expr} {ms : MA} {pos p : Pos} {K : PySem.W.Frag}
@[simp] def fSorted : List R → Mu → Option R
  | [r], μ => match lstOf r μ with
    | some xs => match intsOf xs with
      | some ns => some (.fr ((isort ns).map D.int))
      | none => none
    | none => none
  | _, _ => none
end
end DL
set_option Elab.async false
set_option linter.all false
set_option maxRecDepth 100000
set_option maxHeartbeats 1000000

namespace HT
open PySem PySem.Spec PyProof.Rows
section
variable {prog : Program} {w : World} {A : Around} {E : Value → Shared → Prop} {s : Shared}
end
end HT
namespace DL
open PySem PySem.Spec PyProof.Rows L2
section
variable {X : Cx} {cl : Nat → Addr} {e : Expr} {m : ME} {pos : Pos} {K : PySem.W.Frag}
def tRevA (K : PySem.W.Frag) (te : TE) : TE := fun σ H Q => te σ H fun x H1 => ∃ a xs, x = .ref a ∧ ((SqL K H1 a xs ∧ ∀ p, H1 p = none → Q (.ref p) (upd H1 p (.lst xs.reverse))) ∨ (SqT K H1 a xs ∧ ∀ p, H1 p = none → Q (.ref p) (upd H1 p (.tup xs.reverse))))
@[simp] def mRev (m : ME) : ME := fun δ μ => match m δ μ with
  | none => none
  | some (x, μ1) => match sqOf x μ1 with
    | some (.l xs) => some (.fr xs.reverse, μ1)
    | some (.t xs) => some (.dat (.tup xs.reverse), μ1)
    | none => none
end
end DL
set_option Elab.async false
set_option linter.all false
set_option maxRecDepth 100000
set_option maxHeartbeats 1000000

namespace DL
open PySem L2
section
variable {X : Cx} {K : PySem.W.Frag} {cl : Nat → Addr} {e o : Expr} {mo : ME} {ms : MA} {apos cpos : Pos}
@[simp] def fExtend (k : Nat) (rs : List R) (μ : Mu) : Option (R × Mu) := match rs with
  | [.dat (.lst ys)] => match μ[k]? with
    | some (.l xs) => if xs.length + ys.length ≤ 100000 then some (.dat .non, μ.set k (.l (xs ++ ys))) else none
    | _ => none
  | _ => none
@[simp] def fClear (k : Nat) (rs : List R) (μ : Mu) : Option (R × Mu) := match rs with
  | [] => match μ[k]? with
    | some (.l _) => some (.dat .non, μ.set k (.l []))
    | some (.n _) => some (.dat .non, μ.set k (.l []))
    | _ => none
  | _ => none
end
section
variable {X : Cx} {cl : Nat → Addr} {a b d : Expr} {ma mb mc : ME} {pos : Pos}
/-- two results in a row, by a tuple that is built -/
theorem ss_parT {ci cj : Bool} {i j : Nat} {x y : Str} {px py pt : Pos} {kt k2 : Nat} {pt2 : Pos} (hN : X.N.Nodup) (ha : SE X cl a ma) (hb : SE X cl b mb) (hc : X.calm = true := by rfl) (hi : X.N[i]? = some x := by rfl) (hj : X.N[j]? = some y := by rfl)
    (hx : Loc X.env.scope x := by first | exact .inl rfl | exact .inr rfl) (hy : Loc X.env.scope y := by first | exact .inl rfl | exact .inr rfl)
    (hf : X.fn x = true ∨ X.env.scope.names.lookup x = some .local := by first | exact .inl rfl | exact .inr rfl) (hf' : X.fn y = true ∨ X.env.scope.names.lookup y = some .local := by first | exact .inl rfl | exact .inr rfl)
    (hs : swapsWithSole [.Tuple [.Name x px, .Name y py] kt pt] (.Tuple [a, b] k2 pt2) pos.line X.env = pure false := by rfl)
    (hw : swappedStores [.Tuple [.Name x px, .Name y py] kt pt] (.Tuple [a, b] k2 pt2) X.env = pure none := by rfl)
    (hh : (assignEach [.Tuple [.Name x px, .Name y py] kt pt] X.env).map (·.2) = [assign (.Tuple [.Name x px, .Name y py] kt pt) X.env] := by rfl)
    (ha1 : starEach (a :: [b]) X.env = (false, eval a X.env) :: starEach [b] X.env := by rfl) (hb1 : starEach (b :: []) X.env = (false, eval b X.env) :: starEach [] X.env := by rfl) :
    SS X cl (.Assign [.Tuple [.Name x px, .Name y py] kt pt] (.Tuple [a, b] k2 pt2) pos) (mPar ci cj i j ma mb) := by
  refine PS.weak (ps_asg (pe_tup (pa_cons ha (pa_cons hb pa_nil hb1) ha1)) (pg_tup hc (pgs_cons (pg_name hN hi hx hf) (pgs_cons (pg_name hN hj hy hf') pgs_nil))) hs hw hh) fun E σ H ⟨F, α, δ, μ, fl, C, Ee, hm, k⟩ => ?_
  unfold mPar at hm
  split at hm
  · cases hm
  rename_i r1 μ1 h1
  split at hm
  · cases hm
  rename_i r2 μ2 h2
  split at hm
  · cases hm
  rename_i δ1 μ3 h3
  split at hm
  · cases hm
  rename_i δ2 μ4 h4
  cases hm
  refine ⟨F, α, δ, μ, r1, μ1, C, Ee, h1, fun v F1 H1 e1 c1 q1 => ⟨F1, α, δ, μ1, r2, μ2, c1, Ee.step e1, h2, fun w F2' H2' e2' c2' q2' => ⟨show 2 ≤ sizeLine by decide, fun p hp => ?_⟩⟩⟩
  obtain ⟨e5, c2⟩ := c2'.new (o := .tup [v, w]) hp
  refine ⟨p, [v, w], rfl, SqT.of upd_same, rfl, _, _, rfl, _, _, rfl, rfl, ?_⟩
  have e2 := e2'.trans e5
  have q2 := q2'.step e5
  obtain ⟨F3, α3, e3, sm, ex, n1, n2, c3, en3⟩ := st_ok (e1.trans e2) c2 ((Ee.step e1).step e2) (q1.step e2) h3
  have q2'' := (q2.back e1.dom).other sm ex n1 n2 fun a hr hw => fr_ne q1 q2 hr hw
  obtain ⟨F4, α4, e4, _, _, _, _, c4, en4⟩ := st_ok e3 c3 en3 q2'' h4
  exact k F4 α4 _ _ e4 c4 en4
end
end DL
set_option Elab.async false
set_option linter.all false
set_option maxRecDepth 100000
set_option maxHeartbeats 1000000

namespace DL
open PySem L2 PyProof.Rows
open Sem (wp)
open AutoSeq1 (wpAny_loadPart')
/-- the tuple at a, each item in a new pair -/
def IteT (K : PySem.W.Frag) (a : Addr) : It :=
  ⟨fun i H => ∃ (xs : List V) (x : V), SqT K H a xs ∧ xs[i]? = some x, fun i H v H' => ∃ T x, v = .ref T ∧ H T = none ∧ H' = upd H T (.tup [.int (i : Nat), x]) ∧ ∀ xs, SqT K H a xs → xs[i]? = some x, fun i H => ∃ xs : List V, SqT K H a xs ∧ xs.length = i⟩
def iEnumA (K : PySem.W.Frag) (ta : TA) : TI := fun σ H R => ta σ H fun vs H1 => ∃ a xs, vs = [.ref a] ∧ ((SqL K H1 a xs ∧ R (Ite K a) H1) ∨ (SqT K H1 a xs ∧ R (IteT K a) H1))
section
variable {X : Cx} {cl : Nat → Addr} {a : Expr} {ms : MA} {p pos : Pos}
@[simp] def mItEn (ms : MA) : MI := fun δ μ => match ms δ μ with
  | some ([.dat (.lst xs)], μ1) => some (enumD 0 xs, yes, μ1)
  | some ([.dat (.tup xs)], μ1) => some (enumD 0 xs, yes, μ1)
  | _ => none
end
end DL
set_option Elab.async false
set_option linter.all false
set_option maxRecDepth 100000
set_option maxHeartbeats 1000000

namespace DL
open PySem PySem.Spec PyProof.Rows L2
def lcLoop2 (gd : Mu → Bool) (t : TGT) (mt : MT) (mi1 : MI) (t1 : TGT) (mt1 : MT) (me : ME) (vs1 : List Nat) (δ : Sl) : List D → List D → Mu → Option (List D × Mu)
  | [], acc, μ => if gd μ = true then some (acc, μ) else none
  | x :: xs, acc, μ => if gd μ = true then match t x δ with
      | none => none
      | some δ1 => match mt δ1 μ with
        | none => none
        | some (false, μ1) => lcLoop2 gd t mt mi1 t1 mt1 me vs1 δ xs acc μ1
        | some (true, μ1) => match mi1 δ1 μ1 with
          | none => none
          | some (ys, gd1, μ2) => match lcLoop gd1 t1 mt1 me (wipeR δ1 vs1) ys acc μ2 with
            | none => none
            | some (acc', μ3) => lcLoop2 gd t mt mi1 t1 mt1 me vs1 δ xs acc' μ3
    else none
@[simp] def mLc2 (mi : MI) (t : TGT) (mt : MT) (mi1 : MI) (t1 : TGT) (mt1 : MT) (me : ME) (vs vs1 : List Nat) : ME := fun δ μ => match mi δ μ with
  | none => none
  | some (xs, gd, μ1) => match lcLoop2 gd t mt mi1 t1 mt1 me vs1 (wipeR δ vs) xs [] μ1 with
    | none => none
    | some (ys, μ2) => some (.fr ys, μ2)
section
variable {X : Cx} {cl : Nat → Addr} {K : PySem.W.Frag}
theorem EnvOk.same {F F' : Hp} {α : List Addr} {σ : L2.St} {δ : Sl} (h : EnvOk K cl F α σ δ) (sm : Same F F') : EnvOk K cl F' α σ δ := by
  refine ⟨h.1, fun i d q => ?_, h.2.2⟩
  obtain ⟨v, h1, h2⟩ := h.2.1 i d q
  exact ⟨v, h1, h2.mono sm⟩
end
end DL
set_option Elab.async false
set_option linter.all false
set_option maxRecDepth 100000
set_option maxHeartbeats 1000000

namespace DL
open PySem PySem.Spec PyProof.Rows L2
@[simp] def elR : El → R
  | .d x => .dat x
  | .c j => .cel j
def beqEl : El → El → Bool
  | .d x, .d y => beqD x y
  | .c i, .c j => i == j
  | _, _ => false
def beqEls : List El → List El → Bool
  | [], [] => true
  | a :: as, b :: bs => beqEl a b && beqEls as bs
  | _, _ => false
section
variable {X : Cx} {cl : Nat → Addr} {e o a b c tg : Expr} {es : List Expr} {m mo ma mb mc : ME} {pos p : Pos} {K : PySem.W.Frag} {mt : MT} {m1 m2 : MS} {st : Stmt} {sts : List Stmt} {ms : MA}
theorem ElRs.get {F : Hp} {α : List Addr} : ∀ {vs : List V} {es : List El} {i : Nat} {e : El}, ElRs K cl F α vs es → es[i]? = some e → ∃ v, vs[i]? = some v ∧ ElR K cl F α v e
  | _, _, _, _, .nil, h => by simp at h
  | _, _, 0, _, .cons r _, h => by
    simp at h
    subst h
    exact ⟨_, rfl, r⟩
  | _, _, i + 1, _, .cons _ q, h => by
    obtain ⟨v, e, r⟩ := ElRs.get (i := i) q (by simpa using h)
    exact ⟨v, by simpa using e, r⟩
theorem EnvOk.putE {F : Hp} {α : List Addr} {σ : L2.St} {δ : Sl} {i : Nat} {v : V} {e : El} (h : EnvOk K cl F α σ δ) (r : ElR K cl F α v e) : EnvOk K cl F α (σ.set i (some v)) (δ.set i (elR e)) := by
  cases e with
  | d x => exact h.put i r
  | c j =>
    obtain ⟨a, h1, rfl⟩ := r
    exact h.putC i h1

@[simp] def fIxN : R → R → Mu → Option R
  | .cel k, .dat (.int i), μ => match nOf μ[k]? with
    | some es => match atI es i with
      | some e => some (elR e)
      | none => none
    | none => none
  | x, y, μ => fIx x y μ
@[simp] def fLenN : List R → Mu → Option R
  | [.cel k], μ => match nOf μ[k]? with
    | some es => some (.dat (.int es.length))
    | none => none
  | rs, μ => fLen rs μ
@[simp] def mAppN (mo m : ME) : MS := fun δ μ => match mo δ μ with
  | some (.cel k, μ1) => match isLst μ1[k]? with
    | true => match m δ μ1 with
      | some (.fr xs, μ2) => match nOf μ2[k]? with
        | some es => if es.length < 100000 then some (.nx δ ((μ2 ++ [Cel.l xs]).set k (Cel.n (es ++ [El.c μ2.length])))) else none
        | none => none
      | _ => none
    | false => none
  | _ => none
abbrev MIE := Sl → Mu → Option (List El × (Mu → Bool) × Mu)
def WalkE (K : PySem.W.Frag) (cl : Nat → Addr) (F : Hp) (α : List Addr) (H : Hp) (J : It) (xs : List El) (gd : Mu → Bool) : Prop := ∃ (G : Hp → Prop) (Y : Nat → Hp → V → Hp → Prop), Walk J xs.length G Y ∧
  (∀ F1 α1 μ1 H1, Evo F α H F1 α1 H1 → Conc K cl F1 α1 μ1 H1 → gd μ1 = true → G H1) ∧
  (∀ (i : Nat) d F1 α1 μ1 H1 x H2, xs[i]? = some d → Evo F α H F1 α1 H1 → Conc K cl F1 α1 μ1 H1 → gd μ1 = true → Y i H1 x H2 → ∃ F2, Evo F1 α1 H1 F2 α1 H2 ∧ Conc K cl F2 α1 μ1 H2 ∧ ElR K cl F2 α1 x d)
def tmie (K : PySem.W.Frag) (cl : Nat → Addr) (m : MIE) : TI := fun σ H Q => ∃ F α δ μ xs gd μ', Conc K cl F α μ H ∧ EnvOk K cl F α σ δ ∧ m δ μ = some (xs, gd, μ') ∧
  ∀ J F' H', Evo F α H F' α H' → Conc K cl F' α μ' H' → WalkE K cl F' α H' J xs gd → Q J H'
abbrev SIE (X : Cx) (cl : Nat → Addr) (tg e : Expr) (m : MIE) : Prop := PI X tg e (tmie X.K cl m)
def gdN (k : Nat) (es : List El) : Mu → Bool := fun μ2 => match nOf μ2[k]? with
  | some fs => beqEls fs es
  | none => false
@[simp] def mItN (m : ME) : MIE := fun δ μ => match m δ μ with
  | some (.cel k, μ1) => match nOf μ1[k]? with
    | some es => some (es, gdN k es, μ1)
    | none => none
  | _ => none
def loopE (gd : Mu → Bool) (i : Nat) (mb : MS) : List El → Sl → Mu → Option Flo
  | [], δ, μ => if gd μ = true then some (.nx δ μ) else none
  | x :: xs, δ, μ => if gd μ = true then match mb (δ.set i (elR x)) μ with
      | some (.nx δ2 μ2) => loopE gd i mb xs δ2 μ2
      | some (.ct δ2 μ2) => loopE gd i mb xs δ2 μ2
      | some (.bk δ2 μ2) => some (.nx δ2 μ2)
      | some (.rt r μ2) => some (.rt r μ2)
      | none => none
    else none
@[simp] def mForE (mi : MIE) (i : Nat) (mb : MS) : MS := fun δ μ => match mi δ μ with
  | none => none
  | some (xs, gd, μ1) => loopE gd i mb xs δ μ1
def lcLoopE (gd : Mu → Bool) (i : Nat) (mt : MT) (me : ME) (δ : Sl) : List El → List D → Mu → Option (List D × Mu)
  | [], acc, μ => if gd μ = true then some (acc, μ) else none
  | x :: xs, acc, μ => if gd μ = true then match mt (δ.set i (elR x)) μ with
        | none => none
        | some (false, μ1) => lcLoopE gd i mt me δ xs acc μ1
        | some (true, μ1) => match me (δ.set i (elR x)) μ1 with
          | none => none
          | some (r, μ2) => match toD r with
            | none => none
            | some d => if acc.length < 100000 then lcLoopE gd i mt me δ xs (acc ++ [d]) μ2 else none
    else none
@[simp] def mLcE (mi : MIE) (i : Nat) (mt : MT) (me : ME) (vs : List Nat) : ME := fun δ μ => match mi δ μ with
  | none => none
  | some (xs, gd, μ1) => match lcLoopE gd i mt me (wipeR δ vs) xs [] μ1 with
    | none => none
    | some (ys, μ2) => some (.fr ys, μ2)
end
end DL
set_option Elab.async false
set_option linter.all false
set_option maxRecDepth 100000
set_option maxHeartbeats 1000000

namespace DL
open PySem PySem.Spec PyProof.Rows L2
abbrev MN := Sl → Mu → Option (List El × Mu)
@[simp] def toEl : R → Option El
  | .dat d => some (.d d)
  | .fr xs => some (.d (.lst xs))
  | .cel j => some (.c j)
  | _ => none
@[simp] def mNilN : MN := fun _ μ => some ([], μ)
@[simp] def mConsN (m : ME) (ms : MN) : MN := fun δ μ => match m δ μ with
  | none => none
  | some (r, μ1) => match toEl r with
    | none => none
    | some e => match ms δ μ1 with
      | none => none
      | some (es, μ2) => some (e :: es, μ2)
def tmn (K : PySem.W.Frag) (cl : Nat → Addr) (m : MN) : TA := fun σ H Q => ∃ F α δ μ es μ', Conc K cl F α μ H ∧ EnvOk K cl F α σ δ ∧ m δ μ = some (es, μ') ∧
  ∀ vs F' H', Evo F α H F' α H' → Conc K cl F' α μ' H' → ElRs K cl F' α vs es → Q vs H'
abbrev SN (X : Cx) (cl : Nat → Addr) (es : List Expr) (m : MN) : Prop := PA X es (tmn X.K cl m)
@[simp] def mLstN (ms : MN) : ME := fun δ μ => match ms δ μ with
  | none => none
  | some (es, μ1) => if es.length ≤ 100000 then some (.fc (.n es), μ1) else none
section
variable {X : Cx} {cl : Nat → Addr} {e a : Expr} {es : List Expr} {m : ME} {ms : MN} {pos : Pos} {K : PySem.W.Frag}
end

inductive RepRs (K : PySem.W.Frag) (cl : Nat → Addr) (H0 F : Hp) (α : List Addr) (H : Hp) : List V → List R → Prop
  | nil : RepRs K cl H0 F α H [] []
  | cons {v : V} {r : R} {vs : List V} {rs : List R} : RepR K cl H0 F α H v r → RepRs K cl H0 F α H vs rs → (r.isFr = true → ∀ (i : Nat) (b : Addr) (r' : R), vs[i]? = some (.ref b) → rs[i]? = some r' → r'.isFr = true → v ≠ .ref b) → RepRs K cl H0 F α H (v :: vs) (r :: rs)
@[simp] def mNilV : MA := fun _ μ => some ([], μ)
@[simp] def mConsV (m : ME) (ms : MA) : MA := fun δ μ => match m δ μ with
  | none => none
  | some (r, μ1) => match ms δ μ1 with
    | none => none
    | some (rs, μ2) => some (r :: rs, μ2)
def tmv (K : PySem.W.Frag) (cl : Nat → Addr) (m : MA) : TA := fun σ H Q => ∃ F α δ μ rs μ', Conc K cl F α μ H ∧ EnvOk K cl F α σ δ ∧ m δ μ = some (rs, μ') ∧
  ∀ vs F' H', Evo F α H F' α H' → Conc K cl F' α μ' H' → RepRs K cl H F' α H' vs rs → Q vs H'
abbrev SV (X : Cx) (cl : Nat → Addr) (es : List Expr) (m : MA) : Prop := PA X es (tmv X.K cl m)
def optAll : List (Option D) → Option (List D)
  | [] => some []
  | some d :: r => match optAll r with
    | some ds => some (d :: ds)
    | none => none
  | none :: _ => none
def vwC (μ : Mu) : Nat → Nat → Option D
  | 0, _ => none
  | n + 1, k => match μ[k]? with
    | some (.l xs) => some (.lst xs)
    | some (.n es) => match optAll (es.map fun e => match e with
        | .d x => some x
        | .c j => vwC μ n j) with
      | some ds => some (.lst ds)
      | none => none
    | _ => none
def vwE (μ : Mu) (n : Nat) : El → Option D
  | .d x => some x
  | .c j => vwC μ n j
@[simp] def vwR (μ : Mu) : R → Option D
  | .dat d => some d
  | .fr xs => some (.lst xs)
  | .cel k => vwC μ 4 k
  | .fc (.n es) => match optAll (es.map (vwE μ 4)) with
    | some ds => some (.lst ds)
    | none => none
  | _ => none
@[simp] def vwRs (μ : Mu) : List R → Option (List D)
  | [] => some []
  | r :: rs => match vwR μ r with
    | none => none
    | some d => match vwRs μ rs with
      | none => none
      | some ds => some (d :: ds)
@[simp] def mCallW (f : MF) (ms : MA) : ME := fun δ μ => match ms δ μ with
  | none => none
  | some (rs, μ1) => match vwRs μ1 rs with
    | none => none
    | some ds => match f (ds.map R.dat) [] with
      | some (r, []) => if lfR r = true then some (r, μ1) else none
      | _ => none
section
variable {X : Cx} {cl : Nat → Addr} {e a : Expr} {es : List Expr} {m : ME} {ms : MA} {pos p : Pos} {K : PySem.W.Frag}
theorem RepRs.step {H0 F α H F' α' H'} {vs : List V} {rs : List R} (h : RepRs K cl H0 F α H vs rs) (e : Evo F α H F' α' H') : RepRs K cl H0 F' α' H' vs rs := by
  induction h with
  | nil => exact .nil
  | cons r _ hn ih => exact .cons (r.step e) ih hn
theorem RepRs.back {H0 H1 F H : Hp} {α : List Addr} {vs : List V} {rs : List R} (h : RepRs K cl H1 F α H vs rs) (k : ∀ a, H1 a = none → H0 a = none) : RepRs K cl H0 F α H vs rs := by
  induction h with
  | nil => exact .nil
  | cons r _ hn ih => exact .cons (r.back k) ih hn
theorem RepRs.length {H0 F H : Hp} {α : List Addr} {vs : List V} {rs : List R} (h : RepRs K cl H0 F α H vs rs) : vs.length = rs.length := by
  induction h with
  | nil => rfl
  | cons r _ _ ih => simp [ih]
theorem RepRs.fresh {H0 F H : Hp} {α : List Addr} : ∀ {vs : List V} {rs : List R}, RepRs K cl H0 F α H vs rs → ∀ (i : Nat) (b : Addr) (r : R), vs[i]? = some (.ref b) → rs[i]? = some r → r.isFr = true → H0 b = none
  | _, _, .nil, _, _, _, h, _, _ => by simp at h
  | _, _, .cons h _ _, 0, b, r, g1, g2, g3 => by
    simp at g1 g2
    subst g1 g2
    obtain ⟨a, q1, q2, _⟩ := h.frH g3
    cases q1
    exact q2
  | _, _, .cons _ q _, i + 1, b, r, g1, g2, g3 => RepRs.fresh q i b r (by simpa using g1) (by simpa using g2) g3
/-- the list cells' places -/
def lstsAt (α : List Addr) (μ : Mu) : List Addr := (List.range α.length).filterMap fun k => if isLst μ[k]? = true then α[k]? else none
def nestOf : List R → Nat → Option (List El × List Cel)
  | [], _ => some ([], [])
  | .dat d :: rs, n => match nestOf rs n with
    | some (es, cs) => some (.d d :: es, cs)
    | none => none
  | .cel j :: rs, n => match nestOf rs n with
    | some (es, cs) => some (.c j :: es, cs)
    | none => none
  | .fr xs :: rs, n => match nestOf rs (n + 1) with
    | some (es, cs) => some (.c n :: es, .l xs :: cs)
    | none => none
  | .fc c :: rs, n => match nestOf rs (n + 1) with
    | some (es, cs) => some (.c n :: es, c :: cs)
    | none => none
  | .no :: _, _ => none
@[simp] def mSetN (i : Nat) (ms : MA) : MS := fun δ μ => match ms δ μ with
  | none => none
  | some (rs, μ1) => match nestOf rs μ1.length with
    | none => none
    | some (es, cs) => if es.length ≤ 100000 then some (.nx (δ.set i (.cel (μ1 ++ cs).length)) (μ1 ++ cs ++ [Cel.n es])) else none
theorem Evo.same {F0 H0 F H : Hp} {α0 α : List Addr} (e : Evo F0 α0 H0 F α H) : Evo F α H0 F α H := ⟨Same.refl F, ⟨[], by simp⟩, fun b o hb hb' => by
    by_cases z : b ∈ α0
    · obtain ⟨x, ex⟩ := e.ext
      exact absurd (by rw [ex]; exact List.mem_append_left _ z) hb'
    · exact e.hh b o hb z, e.dom, fun b o hb hq => (by rw [hb] at hq; cases hq), fun b hb hq => absurd hb hq, e.frz⟩
end
end DL
set_option Elab.async false
set_option linter.all false
set_option maxRecDepth 100000
set_option maxHeartbeats 1000000

namespace DL
open PySem PySem.Spec PyProof.Rows L2
section
variable {X : Cx} {cl : Nat → Addr} {pos : Pos} {x : Str} {K : PySem.W.Frag}
end
end DL
set_option Elab.async false
set_option linter.all false
set_option maxRecDepth 100000
set_option maxHeartbeats 1000000

namespace DL
open PySem PySem.Spec PyProof.Rows L2
section
variable {K : PySem.W.Frag} {cl : Nat → Addr}
theorem init_okD {P : Program} {w : World} {mg : Str → Option Value} {base : Heap} {x qual : Str} {st : Stmt} {dvs : List V} {f : Addr} {fd : FuncData} {N ps : List Str} {k n c : Nat} {body : MB} (F : FunX K x qual st dvs f fd) (S : FnScope N ps (defScope st)) (hn : ps.length = n) (hN : n ≤ N.length)
    (hne : ∀ δ μ pd μ', body δ μ pd ≠ some (μ', []))
    (hb : ∀ (cdv : Value) (A : Around) (outer : List Env) (s : Shared) (H : Hp) (E : XK), Room k (A.deeper (envOfC qual (defScope st) s.heap.objs.size f cdv)) →
      SBs (cxOf CX0 P w K mg base N qual (defScope st) f cdv A outer s H E).nox cl c (defBody st) body) : FnOk P w K mg base CX0 (k + 1) f fd ps (spI K cl c n (mInit n N.length body)) := by
  obtain ⟨oc, od, dV, kV, doc, pm, an, cdv, ct, osl, rfl, lk, hcd, _, _⟩ := F.ex
  have F' : ∀ {sp : Sp}, (∀ vs H Q E, sp vs H Q E → vs.length = ps.length) → (∀ (cdv : Value) (A : Around) (outer : List Env) (s : Shared) (H : Hp) (vs : List V) (Q : VK) (E : XK), Room k (A.deeper (envOfC qual (defScope st) s.heap.objs.size f cdv)) → sp vs H Q E →
      ∃ t, PSs (cxOf CX0 P w K mg base N qual (defScope st) f cdv A outer s H E).nox (defBody st) t ∧ t { nx := fun _ H' => Q .non H', rt := Q } (start N vs) H) → FnOk P w K mg base CX0 (k + 1) f (PySem.W.fnOf x qual (defArgs st) (defBody st) (defScope st) dV kV doc pm an cdv ct) ps sp := fun len hbody => by
    refine L2.fn_of lk hcd S len fun A outer s H vs Q E hr hsp => ?_
    obtain ⟨t, h, q⟩ := hbody cdv A outer s H vs Q E hr hsp
    exact ⟨t, h.nox, q⟩
  refine F' (fun vs H Q E h => ?_) (fun cdv A outer s H vs Q E hr h => ⟨_, hb cdv A outer s H E hr, ?_⟩)
  · obtain ⟨_, _, _, _, _, _, _, _, _, _, _, h, _⟩ := h
    rw [h, hn]
  · obtain ⟨y, dx, H0, ws, F, α, μ, rs, ds, μ', rfl, hl, hx, hd, ne, rfl, C, ha, hm, k⟩ := h
    unfold mInit at hm
    split at hm
    · rename_i hrs
      split at hm
      · rename_i μ1 pd h1
        split at hm
        · rename_i ds' h2
          cases hm
          obtain ⟨B, C1⟩ := fresh_new (C := cl c) C hx hd ne
          have hst : L2.start N (.ref y :: ws) = some (.ref y) :: L2.start (N.drop 1) ws := by
            unfold L2.start
            cases N with
            | nil => simp at hN; omega
            | cons a N => simp
          have en : EnvOk K cl F α (L2.start N (.ref y :: ws)) (.no :: (rs ++ List.replicate (N.length - n) .no)) := by
            rw [hst]
            have en0 := env_start (N := N.drop 1) ha
            have e1 : (N.drop 1).length - rs.length = N.length - n := by
              rw [List.length_drop]
              omega
            rw [e1] at en0
            exact env_cons en0
          refine ⟨H0, F, F, α, _, μ, y, dx, [], [], μ', pd, C1, en, by rw [hst]; rfl, B, ⟨rfl, fun i d q => by simp at q⟩, h1, fun F1 H1 vs1 c1 e1 B1 R1 => ?_⟩
          rw [someAll_ok h2] at R1
          obtain ⟨us, rfl, q1⟩ := prel_all R1
          cases us with
          | nil =>
            cases q1
            rw [someAll_ok h2] at h1
            exact absurd h1 (hne _ _ _ _)
          | cons u us =>
            obtain ⟨F2, e2, c2, s2, s3, s4⟩ := B1.done c1
            exact k F2 H1 e2 c2 (.ins s3 s4 (q1.mono s2))
        · cases hm
      · cases hm
    · cases hm
end
/-- C(e, ..), the others by their defaults -/
structure FID (P : Program) (w : World) (K : PySem.W.Frag) (mg : Str → Option Value) (base : Heap) (cl : Nat → Addr) (k c : Nat) (x : Str) (n : Nat) (mi : MIn) (ds : List D) : Prop where
  ok : ∃ (f : Addr) (fd : FuncData) (ps : List Str) (us : List Value) (dvs : List V), Mk K (cl c) f ∧ FnOk P w K mg base CX0 k f fd ps (spI K cl c n mi) ∧ mg x = some (.ref (cl c)) ∧ Binds K fd ps us ∧ Vals dvs us ∧ (∀ F, Reps K cl F dvs ds)
  ar : ∀ rs μ z, mi rs μ = some z → rs.length + 1 = n
@[simp] def mMakeD (c : Nat) (mi : MIn) (ds : List D) (ms : MA) : ME := fun δ μ => match ms δ μ with
  | none => none
  | some (rs, μ1) => match mi (rs ++ ds.map R.dat) μ1 with
    | none => none
    | some (xs, μ2) => some (.dat (.ins c xs), μ2)
section
variable {X : Cx} {cl : Nat → Addr} {e : Expr} {es : List Expr} {ms : MA} {pos p : Pos} {nm : Str} {n k j c : Nat} {mi : MIn} {ds : List D}
theorem se_makeD (S : FID X.prog X.w X.K X.mg X.base cl k c nm n mi ds) (hr : Room j X.A) (hk : k + 1 ≤ j) (ha : SA X cl (e :: es) ms) (hg : Gl X nm := by rfl) (hdb : (nm == ("__debug__" : Str)) = false := by decide) (he : starEach (e :: es) X.env = (false, eval e X.env) :: starEach es X.env := by rfl) (hpl : (backTo pos (starEach es X.env)).any (·.1) = false := by rfl) :
    SE X cl (.Call (.Name nm p) (e :: es) [] pos) (mMakeD c mi ds ms) := by
  obtain ⟨f, fd, ps, us, dvs, M, F, hm, hb, hd, hR⟩ := S.ok
  refine PE.weak (pe_make M F (hr.mono hk) hg hm hb hd pass0 ha hdb he hpl) fun σ H Q ⟨F, α, δ, μ, z, μ', C, Ee, hm, kk⟩ => ?_
  unfold mMakeD at hm
  split at hm
  · cases hm
  rename_i rs μ1 h1
  split at hm
  · cases hm
  rename_i xs μ2 h2
  cases hm
  refine ⟨F, α, δ, μ, rs, μ1, C, Ee, h1, fun vs F1 H1 e1 c1 q1 x dx hx hd ne => ?_⟩
  have q2 := q1.append (reps_args (α := α) (hR F1))
  refine ⟨x, dx, H1, vs ++ dvs, F1, α, μ1, rs ++ ds.map R.dat, xs, μ', rfl, ?_, hx, hd, ne, rfl, c1, q2, h2, fun F2 H2 e2 c2 r2 => ⟨rfl, kk _ F2 H2 (e1.trans e2) c2 r2⟩⟩
  rw [List.length_cons, q2.length]
  exact S.ar _ _ _ h2
end
end DL
set_option Elab.async false
set_option linter.all false
set_option maxRecDepth 100000
set_option maxHeartbeats 4000000

namespace DL
open PySem PySem.Spec PyProof.Rows L2
def rRepT1 (K : PySem.W.Frag) : R2 := fun x y H Q => ∃ l xs, x = .ref l ∧ y = .int 1 ∧ SqT K H l xs ∧ Q (.ref l) H
def rRepT0 (K : PySem.W.Frag) : R2 := fun x y H Q => ∃ l xs, x = .ref l ∧ y = .int 0 ∧ SqT K H l xs ∧ xs ≠ [] ∧ ∀ p, H p = none → Q (.ref p) (upd H p (.tup []))
section
variable {X : Cx}
end
@[simp] def fMulT : R → R → Mu → Option R
  | .dat (.tup (x :: xs)), .dat (.int k), _ => if k = 0 then some (.dat (.tup [])) else if k = 1 then some (.dat (.tup (x :: xs))) else if 2 ≤ k ∧ k ≤ 1000 ∧ (x :: xs).length ≤ 1000 then some (.dat (.tup (List.replicate k.toNat (x :: xs)).flatten)) else none
  | x, y, μ => fMul x y μ
def rMulT (K : PySem.W.Frag) : R2 := fun x y H Q => rMulAll x y H Q ∨ (rRepT1 K x y H Q ∨ (rRepT0 K x y H Q ∨ rRepT K x y H Q))
section
variable {X : Cx} {cl : Nat → Addr} {K : PySem.W.Frag} {a b : Expr} {ma mb : ME} {pos : Pos}
end
end DL
set_option Elab.async false
set_option linter.all false
set_option maxRecDepth 100000
set_option maxHeartbeats 1000000

namespace DL
open PySem L2
section
variable {X : Cx} {K : PySem.W.Frag} {cl : Nat → Addr} {a b e o : Expr} {ma mb mo : ME} {ms : MA} {apos cpos pos : Pos}
@[simp] def fPop (k : Nat) (rs : List R) (μ : Mu) : Option (R × Mu) := match rs with
  | [] => match μ[k]? with
    | some (.l xs) => match xs[xs.length - 1]? with
      | some d => some (.dat d, μ.set k (.l xs.dropLast))
      | none => none
    | _ => none
  | _ => none
@[simp] def fInD (neg : Bool) : R → R → Mu → Option R := fun x y μ => match rPy x μ with
  | none => none
  | some d => match rPy y μ with
    | some (.list ds) => match SeqAt.shaped d && SeqAt.shaped (.list ds) with
      | true => some (.dat (.bl (xor neg (ds.any fun z => PyData.eqv z d))))
      | false => none
    | _ => none
@[simp] def mRd (f : List D → List R → Option D) (mo : ME) (ms : MA) : ME := fun δ μ => match mo δ μ with
  | none => none
  | some (r, μ1) => match lstOf r μ1 with
    | none => none
    | some _ => match ms δ μ1 with
      | none => none
      | some (rs, μ2) => match lstOf r μ2 with
        | none => none
        | some xs => match f xs rs with
          | none => none
          | some d => some (.dat d, μ2)
def RdSem (K : PySem.W.Frag) (cl : Nat → Addr) (r : V → List V → Hp → VK → Prop) (f : List D → List R → Option D) : Prop := ∀ (F : Hp) (α : List Addr) (μ : Mu) (H : Hp) (ad : Addr) (us vs : List V) (xs : List D) (rs : List R) (z : D) (Q : VK), Conc K cl F α μ H → H ad = some (.lst us) → Reps K cl F us xs → ArgRs K cl F α vs rs → f xs rs = some z →
  (∀ v F' H', Evo F α H F' α H' → Conc K cl F' α μ H' → Rep K cl F' v z → Q v H') → r (.ref ad) vs H Q
@[simp] def fIndex (xs : List D) (rs : List R) : Option D := match rs with
  | [.dat d] => if flat1 d && xs.all flat1 then match xs.findIdx? fun z => eqF z d with
    | some j => some (.int (j : Nat))
    | none => none
    else none
  | _ => none
end
end DL
set_option Elab.async false
set_option linter.all false
set_option maxRecDepth 100000
set_option maxHeartbeats 1000000

namespace DL
open PySem L2
def mnI : List Int → Option Int
  | [] => none
  | x :: xs => match mnI xs with
    | none => some x
    | some m => some (if x ≤ m then x else m)
def mxI : List Int → Option Int
  | [] => none
  | x :: xs => match mxI xs with
    | none => some x
    | some m => some (if m ≤ x then x else m)
section
variable {X : Cx} {K : PySem.W.Frag} {cl : Nat → Addr} {a : Expr} {ms : MA} {p pos : Pos}
@[simp] def fMin1 : List R → Mu → Option R
  | [.dat (.lst xs)], _ => match intsOf xs with
    | some ns => match mnI ns with
      | some m => some (.dat (.int m))
      | none => none
    | none => none
  | _, _ => none
@[simp] def fMax1 : List R → Mu → Option R
  | [.dat (.lst xs)], _ => match intsOf xs with
    | some ns => match mxI ns with
      | some m => some (.dat (.int m))
      | none => none
    | none => none
  | _, _ => none
@[simp] def fSum : List R → Mu → Option R
  | [.dat (.lst xs)], _ => match intsOf xs with
    | some ns => some (.dat (.int ns.sum))
    | none => none
  | _, _ => none
end
end DL
set_option Elab.async false
set_option linter.all false
set_option maxRecDepth 100000
set_option maxHeartbeats 1000000

namespace DL
open PySem L2
@[simp] def fMulL : R → R → Mu → Option R := fun x y μ => match lstOf x μ with
  | none => none
  | some xs => match y with
    | .dat (.int k) => if 0 ≤ k ∧ k ≤ 100 ∧ xs.length ≤ 1000 then some (.fr (List.replicate k.toNat xs).flatten) else none
    | _ => none
section
variable {X : Cx} {cl : Nat → Addr} {K : PySem.W.Frag} {a b : Expr} {ma mb : ME} {pos : Pos}
theorem sem_mulL : OpSem K cl rRep fMulL := by
  intro F α μ H H0 x y rx ry z Q C h1 h2 hz k
  unfold fMulL at hz
  split at hz
  · cases hz
  rename_i xs e1
  split at hz
  · rename_i i
    split at hz
    · rename_i hi
      cases hz
      obtain ⟨ad, vs, rfl, q1, q2⟩ := lstOf_ok C h1 e1
      refine ⟨ad, i, vs, rfl, rep_int h2, q1, by omega, by omega, ?_, fun p hp => ?_⟩
      · rw [q2.length]
        have h3 : xs.length * i.toNat ≤ 1000 * 100 := Nat.mul_le_mul hi.2.2 (by omega)
        exact Nat.le_trans h3 (by decide)
      · obtain ⟨e5, c5, r5⟩ := C.newL (vs := (List.replicate i.toNat vs).flatten) hp (q2.flat i.toNat)
        exact k _ _ _ e5 c5 r5
    · cases hz
  · cases hz
theorem se_mulL (ha : SE X cl a ma) (hb : SE X cl b mb) : SE X cl (.BinOp a .Mult b pos) (mOp fMulL ma mb) := se_op op_rep sem_mulL ha hb
end
end DL
set_option Elab.async false
set_option linter.all false
set_option maxRecDepth 100000
set_option maxHeartbeats 1000000

namespace DL
open PySem L2
@[simp] def fAddN : R → R → Mu → Option R := fun x y μ => match x with
  | .cel k => match nOf μ[k]? with
    | none => none
    | some es => match lstOf y μ with
      | none => none
      | some ys => if es.length + ys.length ≤ 100000 then some (.fc (.n (es ++ ys.map El.d))) else none
  | _ => none
section
variable {X : Cx} {cl : Nat → Addr} {K : PySem.W.Frag} {a b : Expr} {ma mb : ME} {pos : Pos}
end
end DL
set_option Elab.async false
set_option linter.all false
set_option maxRecDepth 100000
set_option maxHeartbeats 1000000

namespace DL
open PySem PySem.Spec PyProof.Rows L2
section
variable {X : Cx} {cl : Nat → Addr} {e o a b tg : Expr} {es : List Expr} {m mo ma mb : ME} {ms mk : MA} {pos p apos : Pos} {K : PySem.W.Frag} {n np nk k j c : Nat} {mf : MF} {P : Program} {w : World} {mg : Str → Option Value} {base : Heap}
def rLenA (C : Addr) (sp : Sp) (E : XK) : List V → Hp → VK → Prop := fun xs H Q => ∃ a dx vs, xs = [.ref a] ∧ SlX.Slt H a C dx vs ∧ sp xs H (fun v H' => ∃ i : Int, v = .int i ∧ 0 ≤ i ∧ i < 2 ^ 63 ∧ Q (.int i) H') E
@[simp] def mLenG (c : Nat) (mf : MF) (m : ME) : ME := fun δ μ => match m δ μ with
  | some (.dat (.ins c' xs), μ1) => if c' = c then match mf [.dat (.ins c' xs)] μ1 with
      | some (.dat (.int i), μ2) => if 0 ≤ i ∧ i < 1000000 then some (.dat (.int i), μ2) else none
      | _ => none
    else none
  | _ => none
/-- x in o, x not in o -/
structure FU2 (P : Program) (w : World) (K : PySem.W.Frag) (mg : Str → Option Value) (base : Heap) (cl : Nat → Addr) (k c : Nat) (x : Str) (m : MF) : Prop where
  ok : ∃ g, PySem.W.findIn K (.ref (cl c)) x = some (some (.ref g)) ∧ PySem.W.isFn K (.ref g) = true ∧ PySem.W.fnIn K g = true ∧ FA P w K mg base cl k g 2 m
theorem FU2.cx {x : Str} (S : FU2 P w K mg base cl k c x mf) : FU2 P w K mg base cl k c x (callX mf) := by
  obtain ⟨g, h1, h2, h3, h4⟩ := S
  exact ⟨g, h1, h2, h3, h4.x⟩
def rInG (neg : Bool) (C : Addr) (sp : Sp) (E : XK) : R2 := fun x y H Q => ∃ a dx vs, y = .ref a ∧ SlX.Slt H a C dx vs ∧ sp [y, x] H (fun v H' => ∃ i : Bool, v = .bl i ∧ Q (.bl (xor neg i)) H') E
@[simp] def gIn (neg : Bool) (c : Nat) (f : MF) : G2
  | .dat d, .dat (.ins c1 xs), μ => if c1 = c then match f [.dat (.ins c1 xs), .dat d] μ with
      | some (.dat (.bl b), μ') => some (.dat (.bl (xor neg b)), μ')
      | _ => none
    else none
  | _, _, _ => none
/-- o[i] of an own instance -/
def rIxG (C : Addr) (sp : Sp) (E : XK) : R2 := fun x y H Q => ∃ a dx vs, x = .ref a ∧ SlX.Slt H a C dx vs ∧ sp [x, y] H Q E
@[simp] def gIx (c : Nat) (f : MF) : G2
  | .dat (.ins c1 xs), .dat d, μ => if c1 = c then f [.dat (.ins c1 xs), .dat d] μ else none
  | _, _, _ => none
end
end DL
namespace DL
open PySem PySem.Spec PyProof.Rows L2
section
variable {K : PySem.W.Frag} {cl : Nat → Addr} {vs : List Nat} {g : TG} {gs : TGs} {t : TGT} {ts : List TGT}
end
end DL
set_option Elab.async false
set_option linter.all false
set_option maxRecDepth 100000
set_option maxHeartbeats 1000000

namespace DL
open PySem PySem.Spec PyProof.Rows L2

def valK {β : Type} (kvs : List (Key × β)) (k : Key) : Option β := (kvs.find? fun kv => decide (kv.1 = k)).map (·.2)
def putE {β : Type} (kvs : List (Key × β)) (k : Key) (v : β) : List (Key × β) := if (kvs.any fun kv => decide (kv.1 = k)) = true then kvs.map (fun kv => if kv.1 = k then (kv.1, v) else kv) else kvs ++ [(k, v)]
section
variable {X : Cx} {cl : Nat → Addr} {e o a b c tg f : Expr} {es : List Expr} {m mo ma mb mc md mk : ME} {pos p apos cpos : Pos} {K : PySem.W.Frag} {mt : MT} {m1 m2 : MS} {st : Stmt} {sts : List Stmt} {ms : MA}
theorem KvRs.length {κ : Type} {F : Hp} {α : List Addr} : ∀ {us : List (κ × V)} {kvs : List (κ × El)}, KvRs K cl F α us kvs → us.length = kvs.length
  | _, _, .nil => rfl
  | _, _, .cons _ q => congrArg (· + 1) (KvRs.length q)
theorem KvRs.val {F : Hp} {α : List Addr} (k : Key) : ∀ {us : List (Key × V)} {kvs : List (Key × El)}, KvRs K cl F α us kvs → (∀ e, valK kvs k = some e → ∃ v, valV us k = some v ∧ ElR K cl F α v e) ∧ (valK kvs k = none → valV us k = none)
  | _, _, .nil => ⟨fun e h => (by cases h), fun _ => rfl⟩
  | _, _, .cons (k := k') (v := v) (e := e') (vs := us) (es := kvs) r q => by
    have ih := KvRs.val k q
    by_cases hk : k' = k
    · refine ⟨fun e h => ?_, fun h => ?_⟩
      · simp [valK, List.find?_cons, hk] at h
        subst h
        exact ⟨v, by simp [valV, List.find?_cons, hk], r⟩
      · simp [valK, List.find?_cons, hk] at h
    · have e1 : valK ((k', e') :: kvs) k = valK kvs k := by simp [valK, List.find?_cons, hk]
      have e2 : valV ((k', v) :: us) k = valV us k := by simp [valV, List.find?_cons, hk]
      rw [e1, e2]
      exact ih
theorem KvRs.any {F : Hp} {α : List Addr} (k : Key) : ∀ {us : List (Key × V)} {kvs : List (Key × El)}, KvRs K cl F α us kvs → (us.any fun kv => decide (kv.1 = k)) = (kvs.any fun kv => decide (kv.1 = k))
  | _, _, .nil => rfl
  | _, _, .cons r q => by
    rw [List.any_cons, List.any_cons, KvRs.any k q]
theorem KvRs.repl {F : Hp} {α : List Addr} {k : Key} {v : V} {e : El} (h : ElR K cl F α v e) : ∀ {us : List (Key × V)} {kvs : List (Key × El)}, KvRs K cl F α us kvs → KvRs K cl F α (us.map fun kv => if kv.1 = k then (kv.1, v) else kv) (kvs.map fun kv => if kv.1 = k then (kv.1, e) else kv)
  | _, _, .nil => .nil
  | _, _, .cons (k := k') r q => by
    rw [List.map_cons, List.map_cons]
    by_cases hk : k' = k
    · simp only [hk, if_true]
      exact .cons h (KvRs.repl h q)
    · simp only [hk, if_false]
      exact .cons r (KvRs.repl h q)
theorem KvRs.snoc {F : Hp} {α : List Addr} {k : Key} {v : V} {e : El} (h : ElR K cl F α v e) : ∀ {us : List (Key × V)} {kvs : List (Key × El)}, KvRs K cl F α us kvs → KvRs K cl F α (us ++ [(k, v)]) (kvs ++ [(k, e)])
  | _, _, .nil => .cons h .nil
  | _, _, .cons r q => .cons r (KvRs.snoc h q)
theorem KvRs.put {F : Hp} {α : List Addr} {k : Key} {v : V} {e : El} {us : List (Key × V)} {kvs : List (Key × El)} (q : KvRs K cl F α us kvs) (h : ElR K cl F α v e) : KvRs K cl F α (putK us k v) (putE kvs k e) := by
  unfold putK putE
  rw [q.any k]
  by_cases z : (kvs.any fun kv => decide (kv.1 = k)) = true
  · rw [if_pos z, if_pos z]
    exact KvRs.repl h q
  · rw [if_neg z, if_neg z]
    exact KvRs.snoc h q
/-- a key -/
@[simp] def keyR : R → Option Key
  | .dat (.int i) => some (.inl i)
  | .dat (.str x) => some (.inr x)
  | _ => none
@[simp] def mDNew : ME := fun _ μ => some (.fc (.dk false []), μ)
def tDSetDef (td ty tx : TE) : TE := fun σ H Q => td σ H fun x H1 => ∃ ad, x = .ref ad ∧ IsD H1 ad ∧ ty σ H1 fun y H2 => tx σ H2 fun z H3 => ∃ kvs k, H3 ad = some (.dK kvs) ∧ y = kV k ∧ kvs.length < sizeLine ∧
  (∀ v, valV kvs k = some v → Q v H3) ∧ (valV kvs k = none → Q z (upd H3 ad (.dK (putK kvs k z))))
@[simp] def sdef (i : Nat) (k : Key) (μ : Mu) : Option (Nat × Mu) := match μ[i]? with
  | some (.dk false kvs) => if kvs.length < 100000 then match valK kvs k with
      | some (.c j) => some (j, μ)
      | some (.d _) => none
      | none => some (μ.length, (μ ++ [Cel.l []]).set i (.dk false (putE kvs k (.c μ.length))))
    else none
  | _ => none
@[simp] def appC (j : Nat) (mv : ME) (δ : Sl) (μ : Mu) : Option Flo := match isLst μ[j]? with
  | true => match mv δ μ with
    | some (.dat d, μ4) => match μ4[j]? with
      | some (.l xs) => if xs.length < 100000 then some (.nx δ (μ4.set j (.l (xs ++ [d])))) else none
      | _ => none
    | _ => none
  | false => none
@[simp] def mSdApp (mo mk md mv : ME) : MS := fun δ μ => match mo δ μ with
  | some (.cel i, μ1) => match μ1[i]? with
    | some (.dk false _) => match mk δ μ1 with
      | some (rk, μ2) => match keyR rk with
        | some k => match md δ μ2 with
          | some (.fr [], μ3) => match sdef i k μ3 with
            | some (j, μs) => appC j mv δ μs
            | none => none
          | _ => none
        | none => none
      | none => none
    | _ => none
  | _ => none
section
variable {F F' H H' : Hp} {α α' : List Addr} {μ : Mu} {ad : Addr} {od : Obj} {us : List (Key × V)} {v : V} {r : R}
end
@[simp] def mLk (i : Nat) (m : ME) : ME := fun δ μ => match δ[i]? with
  | some (.cel k) => match μ[k]? with
    | some (.dk false kvs) => match m δ (μ.set k (.dk true kvs)) with
      | some (r, μ2) => some (r, μ2.set k (.dk false kvs))
      | none => none
    | _ => none
  | _ => none
def unl (k : Nat) (c : Cel) : Flo → Flo
  | .nx δ μ => .nx δ (μ.set k c)
  | .bk δ μ => .bk δ (μ.set k c)
  | .ct δ μ => .ct δ (μ.set k c)
  | .rt r μ => .rt r (μ.set k c)
@[simp] def mLkS (i : Nat) (m : MS) : MS := fun δ μ => match δ[i]? with
  | some (.cel k) => match μ[k]? with
    | some (.dk false kvs) => match m δ (μ.set k (.dk true kvs)) with
      | some fl => some (unl k (.dk false kvs) fl)
      | none => none
    | _ => none
  | _ => none
@[simp] def mItV (i : Nat) : MIE := fun δ μ => match δ[i]? with
  | some (.cel k) => match μ[k]? with
    | some (.dk true kvs) => some (kvs.map (·.2), yes, μ)
    | _ => none
  | _ => none
end
end DL
set_option Elab.async false
set_option linter.all false
set_option maxRecDepth 100000
set_option maxHeartbeats 1000000

namespace DL
open PySem PySem.Spec PyProof.Rows L2
/-- what can be data from now on: lists, dicts that are not walked over -/
@[simp] def isFz : Option Cel → Bool
  | some (.l _) => true
  | some (.n _) => true
  | some (.dk false _) => true
  | some (.dt false _) => true
  | _ => false
def fzAt (α : List Addr) (μ : Mu) : List Addr := (List.range α.length).filterMap fun k => if isFz μ[k]? = true then α[k]? else none
theorem KvRs.keys {κ : Type} {K : PySem.W.Frag} {cl : Nat → Addr} {F : Hp} {α : List Addr} : ∀ {us : List (κ × V)} {kvs : List (κ × El)}, KvRs K cl F α us kvs → us.map (·.1) = kvs.map (·.1)
  | _, _, .nil => rfl
  | _, _, .cons _ q => by
    rw [List.map_cons, List.map_cons, KvRs.keys q]
/-- cells from lo on, as data -/
def vlC (lo : Nat) (μ : Mu) : Nat → Nat → Option D
  | 0, _ => none
  | n + 1, k => if lo ≤ k then match μ[k]? with
      | some (.l xs) => some (.lst xs)
      | some (.n es) => match optAll (es.map fun e => match e with
          | .d x => some x
          | .c j => vlC lo μ n j) with
        | some ds => some (.lst ds)
        | none => none
      | some (.dk false kvs) => match optAll ((kvs.map (·.2)).map fun e => match e with
          | .d x => some x
          | .c j => vlC lo μ n j) with
        | some ds => some (.dk (kvs.map (·.1)) ds)
        | none => none
      | some (.dt false kvs) => match optAll ((kvs.map (·.2)).map fun e => match e with
          | .d x => some x
          | .c j => vlC lo μ n j) with
        | some ds => some (.dt (kvs.map (·.1)) ds)
        | none => none
      | _ => none
    else none
def vlE (lo : Nat) (μ : Mu) (n : Nat) : El → Option D
  | .d x => some x
  | .c j => vlC lo μ n j
@[simp] def vlR (lo : Nat) (μ : Mu) : R → Option D
  | .dat d => some d
  | .fr xs => some (.lst xs)
  | .cel k => vlC lo μ 4 k
  | .fc (.n es) => match optAll (es.map (vlE lo μ 4)) with
    | some ds => some (.lst ds)
    | none => none
  | .fc (.t es) => match optAll (es.map (vlE lo μ 4)) with
    | some ds => some (.tup ds)
    | none => none
  | _ => none
@[simp] def mDefV (n N : Nat) (body : MS) : MF := fun rs μ => if rs.length = n then
    match body (rs ++ List.replicate (N - n) .no) μ with
    | some (.rt r μ') => match lowM μ.length μ' with
      | true => match vlR μ.length μ' r with
        | some d => some (.dat d, μ'.take μ.length)
        | none => none
      | false => none
    | some (.nx _ μ') => retR μ.length (.dat .non) μ'
    | _ => none
  else none
section
variable {X : Cx} {cl : Nat → Addr} {e a b c : Expr} {es : List Expr} {m ma mb mc : ME} {pos p : Pos} {K : PySem.W.Frag} {mt : MT} {m1 m2 : MS} {st : Stmt} {sts : List Stmt} {ms : MA}
/-- a tuple with cells -/
@[simp] def mTupN (ms : MN) : ME := fun δ μ => match ms δ μ with
  | none => none
  | some (es, μ1) => if es.length ≤ 100000 then some (.fc (.t es), μ1) else none
end
end DL
set_option Elab.async false
set_option linter.all false
set_option maxRecDepth 100000
set_option maxHeartbeats 1000000

namespace DL
open PySem PySem.Spec PyProof.Rows L2
section
variable {X : Cx} {cl : Nat → Addr} {e a b c : Expr} {es : List Expr} {m ma mb mc : ME} {pos p : Pos} {K : PySem.W.Frag}
def frAt (v : V) (r : R) : List Addr := match v with
  | .ref b => if r.isFr = true then [b] else []
  | _ => []
@[simp] def fEqN (neg : Bool) : R → R → Mu → Option R := fun x y μ => match vwR μ x, vwR μ y with
  | some d, some d' => match toPy d, toPy d' with
    | some p, some q => if SeqAt.shaped p && SeqAt.shaped q then some (.dat (.bl (xor neg (PyData.eqv p q)))) else none
    | _, _ => none
  | _, _ => none
end
end DL
set_option Elab.async false
set_option linter.all false
set_option maxRecDepth 100000
set_option maxHeartbeats 1000000

namespace DL
open PySem PySem.Spec PyProof.Rows L2
def gNs : List Nat → TGs
  | [] => gNil
  | i :: is => gCons (gName i) (gNs is)
def setsV : L2.St → List Nat → List V → L2.St
  | σ, i :: is, v :: vs => setsV (σ.set i (some v)) is vs
  | σ, _, _ => σ
@[simp] def stAll : List (Bool × Nat) → List R → Sl → Mu → Option (Sl × Mu)
  | [], [], δ, μ => some (δ, μ)
  | (c, i) :: cs, r :: rs, δ, μ => match stR c i r δ μ with
    | some (δ1, μ1) => stAll cs rs δ1 μ1
    | none => none
  | _, _, _, _ => none
@[simp] def mParN (cs : List (Bool × Nat)) (ms : MA) : MS := fun δ μ => match ms δ μ with
  | none => none
  | some (rs, μ1) => match stAll cs rs δ μ1 with
    | some (δ', μ') => some (.nx δ' μ')
    | none => none
section
variable {X : Cx} {cl : Nat → Addr} {e : Expr} {es tes : List Expr} {pos : Pos} {K : PySem.W.Frag} {ms : MA}
theorem RepRs.other {F F1 H H0 : Hp} {α α1 : List Addr} {P : Addr → Prop} (sm : Same F F1) (ex : ∃ x, α1 = α ++ x) (n1 : ∀ b, b ∈ α1 → b ∉ α → P b) (n2 : ∀ b o, F b = none → F1 b = some o → P b) :
    ∀ {vs : List V} {rs : List R}, RepRs K cl H0 F α H vs rs → (∀ (i : Nat) (b : Addr) (r : R), vs[i]? = some (.ref b) → rs[i]? = some r → r.isFr = true → ¬ P b) → RepRs K cl H0 F1 α1 H vs rs
  | _, _, .nil, _ => .nil
  | _, _, .cons h q hn, ne => .cons (h.other sm ex n1 n2 fun a hr hw => ne 0 a _ (by rw [hw]; rfl) rfl hr) (RepRs.other sm ex n1 n2 q fun i b r g1 g2 g3 => ne (i + 1) b r (by simpa using g1) (by simpa using g2) g3) hn
end
end DL
set_option Elab.async false
set_option linter.all false
set_option maxRecDepth 100000
set_option maxHeartbeats 1000000

namespace ZX
open PySem
open PySem.Sem (wp)
/-- k: a tuple; else a list -/
def Sqn (k : Bool) (h : Heap) (a : Addr) (xs : Array Value) : Prop := if k then h.IsTuple a xs else h.IsList a xs
def Stn (k : Bool) (h : Heap) (i a : Addr) (n : Nat) : Prop := if k then h.IsTupleIter i a n else h.IsListIter i a n
section
variable {k : Bool} {h h' : Heap} {i a : Addr} {n : Nat} {xs : Array Value}
theorem Sqn.lt (x : Sqn k h a xs) : a < h.objs.size := by
  cases k
  · obtain ⟨o, ho, _⟩ := x
    exact Heap.lt_size ho
  · obtain ⟨o, ho, _⟩ := x
    exact Heap.lt_size ho
end
section
variable {prog : Program} {w : World} {A : Around} {E : Value → Shared → Prop} {s : Shared} {k : Bool} {i a : Addr} {n : Nat} {xs : Array Value}
theorem stepN {x : Value} {Q : Value → Shared → Prop} (hi : Stn k s.heap i a n) (ha : Sqn k s.heap a xs) (hx : xs[n]? = some x) (hQ : ∀ h', Stn k h' i a (n + 1) → Heap.SameBut i s.heap h' → Q x { s with heap := h' }) :
    wpAny (model prog w) A (Builtin.SmallTypes.nextOf (.ref i)) Q E s := by
  cases k
  · exact wpAny_nextOf_list_item hi ha hx hQ
  · exact RZ.nextOf_tuple_item hi ha hx hQ
end
/-- a zip object over iterators at i1, i2, all apart -/
structure ZipAt (h : Heap) (z TI TO i1 i2 : Addr) (f : Value) : Prop where
  zip : IsZip h z TI TO f
  ti : IsPair h TI (.ref i1) (.ref i2)
  to : ∃ a b, IsPair h TO a b
section
variable {prog : Program} {w : World} {A : Around} {E : Value → Shared → Prop} {s : Shared} {k k' : Bool} {z TI TO i1 i2 l1 l2 : Addr} {n1 n2 : Nat} {xs ys : Array Value} {x y : Value}
/-- what the turn of a zip changes -/
def Turned (z TO i1 i2 : Addr) (h h' : Heap) : Prop := ∀ c o, c ≠ z → c ≠ TO → c ≠ i1 → c ≠ i2 → h.get? c = some o → h'.get? c = some o
end
end ZX
namespace ZX
open PySem
section
variable {prog : Program} {w : World} {A : Around} {E : Value → Shared → Prop} {s : Shared} {k k' : Bool} {l1 l2 : Addr} {xs ys : Array Value}
/-- an iterator's object -/
abbrev itO (k : Bool) (a : Addr) : Obj := { cls := .type (if k then "tuple_iterator" else "list_iterator"), data := .fields #[.ref a, .int 0 0] }
abbrev hp2 (h : Heap) (k k' : Bool) (l1 l2 : Addr) : Heap := (h.push (itO k l1)).push (itO k' l2)
abbrev hp5 (h : Heap) (k k' : Bool) (l1 l2 : Addr) : Heap := (((hp2 h k k' l1 l2).push { cls := .type "tuple", data := .seq #[.ref h.objs.size, .ref (h.push (itO k l1)).objs.size] }).push { cls := .type "tuple", data := .seq #[.none, .none] }).push
  { cls := .type "zip", data := .fields #[.none, .bool false, .bool false, .ref (hp2 h k k' l1 l2).objs.size, .ref ((hp2 h k k' l1 l2).push { cls := .type "tuple", data := .seq #[.ref h.objs.size, .ref (h.push (itO k l1)).objs.size] }).objs.size] }
end
end ZX
namespace ZX
open PySem PySem.Spec PyProof.Rows L2
def SqB (K : PySem.W.Frag) (k : Bool) (H : Hp) (a : Addr) (xs : List V) : Prop := if k then SqT K H a xs else SqL K H a xs
section
variable {X : Cx} {pins : List (Addr × Obj)} {σ : L2.St} {H : Hp} {s : Shared} {k : Bool} {a : Addr} {xs ys : List V}
end
/-- the items of both, in new pairs -/
def Iz2 (K : PySem.W.Frag) (k k' : Bool) (a b : Addr) : It where
  go := fun i H => ∃ (xs ys : List V) (x y : V), SqB K k H a xs ∧ SqB K k' H b ys ∧ xs[i]? = some x ∧ ys[i]? = some y
  yld := fun i H v H' => ∃ T x y, v = .ref T ∧ H T = none ∧ H' = upd H T (.tup [x, y]) ∧ (∀ xs, SqB K k H a xs → xs[i]? = some x) ∧ ∀ ys, SqB K k' H b ys → ys[i]? = some y
  stop := fun i H => ∃ xs ys : List V, SqB K k H a xs ∧ SqB K k' H b ys ∧ (xs.length ≤ i ∨ ys.length ≤ i)
def stZ (z TI TO i1 i2 a b : Addr) (k k' : Bool) (i : Nat) (h : Heap) : Prop := ZipAt h z TI TO i1 i2 .none ∧ Stn k h i1 a i ∧ Stn k' h i2 b i
/-- zip(e, e2), each a list or a tuple -/
def iZip2 (K : PySem.W.Frag) (ta : TA) : TI := fun σ H R => ta σ H fun vs H1 => ∃ a b k k' xs ys, vs = [.ref a, .ref b] ∧ SqB K k H1 a xs ∧ SqB K k' H1 b ys ∧ R (Iz2 K k k' a b) H1
end ZX
namespace DL
open PySem PySem.Spec PyProof.Rows L2
@[simp] def sqOf2 : R → Option (List D)
  | .dat (.lst xs) => some xs
  | .dat (.tup xs) => some xs
  | _ => none
@[simp] def mItZ2 (ms : MA) : MI := fun δ μ => match ms δ μ with
  | some ([x, y], μ1) => match sqOf2 x, sqOf2 y with
    | some xs, some ys => some (pairsD xs ys, yes, μ1)
    | _, _ => none
  | _ => none
section
variable {X : Cx} {cl : Nat → Addr} {a b : Expr} {ms : MA} {p pos : Pos}
end
end DL
set_option Elab.async false
set_option linter.all false
set_option maxRecDepth 100000
set_option maxHeartbeats 1000000

namespace DL
open PySem PySem.Spec PyProof.Rows L2
section
variable {X : Cx} {cl : Nat → Addr} {e o a b c tg f : Expr} {es : List Expr} {m mo ma mb mc md mk mx : ME} {pos p apos cpos : Pos} {K : PySem.W.Frag} {mt : MT} {m1 m2 : MS} {st : Stmt} {sts : List Stmt} {ms : MA}

def tLV (td : TE) : TE := fun σ H Q => td σ H fun x H1 => ∃ ad kvs, x = V.ref ad ∧ H1 ad = some (.dK kvs) ∧ ∀ p, H1 p = none → Q (.ref p) (upd H1 p (.lst (kvs.map (·.2))))
def datsOf : List (Key × El) → Option (List D)
  | [] => some []
  | (_, .d d) :: r => match datsOf r with
    | some ds => some (d :: ds)
    | none => none
  | (_, .c _) :: _ => none
@[simp] def mLstV (mo : ME) : ME := fun δ μ => match mo δ μ with
  | some (.cel i, μ1) => match μ1[i]? with
    | some (.dk false kvs) => match datsOf kvs with
      | some ds => some (.fr ds, μ1)
      | none => none
    | _ => none
  | _ => none
@[simp] def elR2 : El → R
  | .d d => .dat d
  | .c j => .cel j
@[simp] def mDGet2 (mo mk mx : ME) : ME := fun δ μ => match mo δ μ with
  | some (.cel i, μ1) => match μ1[i]? with
    | some (.dk false _) => match mk δ μ1 with
      | some (rk, μ2) => match keyR rk with
        | some k => match mx δ μ2 with
          | some (r, μ3) => match μ3[i]? with
            | some (.dk false kvs) => match valK kvs k with
              | some w => some (elR2 w, μ3)
              | none => some (r, μ3)
            | _ => none
          | none => none
        | none => none
      | none => none
    | _ => none
  | _ => none
@[simp] def mDGet (mo mk : ME) : ME := fun δ μ => match mo δ μ with
  | some (.cel i, μ1) => match mk δ μ1 with
    | some (rk, μ2) => match keyR rk with
      | some k => match μ2[i]? with
        | some (.dk _ kvs) => match valK kvs k with
          | some w => some (elR2 w, μ2)
          | none => none
        | _ => none
      | none => none
    | none => none
  | _ => none
@[simp] def mDPut (mo mk mv : ME) : MS := fun δ μ => match mv δ μ with
  | some (r, μ1) => match toD r with
    | some d => match mo δ μ1 with
      | some (.cel i, μ2) => match mk δ μ2 with
        | some (rk, μ3) => match keyR rk with
          | some k => match μ3[i]? with
            | some (.dk false kvs) => if kvs.length < 100000 then some (.nx δ (μ3.set i (.dk false (putE kvs k (.d d))))) else none
            | _ => none
          | none => none
        | none => none
      | _ => none
    | none => none
  | none => none
end
end DL
namespace DL
open PySem PySem.Spec PyProof.Rows L2

abbrev FunK (K : PySem.W.Frag) (x qual : Str) (st : Stmt) (kws : List (Str × V)) (f : Addr) (fd : FuncData) : Prop := FunD K x qual (defArgs st) (defBody st) (defScope st) [] kws f fd
/-- f(e, ..), what lacks stands in m -/
structure FSD (P : Program) (w : World) (K : PySem.W.Frag) (mg : Str → Option Value) (base : Heap) (cl : Nat → Addr) (k : Nat) (x : Str) (n : Nat) (m : MF) : Prop where
  ok : ∃ (f : Addr) (fd : FuncData) (ps : List Str) (us : List Value) (dvs : List V) (sp : Sp), FnOk P w K mg base CX0 k f fd ps sp ∧ mg x = some (.ref f) ∧ PySem.W.keepIn K (.ref f) = true ∧ Binds K fd ps us ∧ Vals dvs us ∧ ∀ vs H Q E, spM K cl n m vs H Q E → sp (vs ++ dvs) H Q E
  ar : ∀ rs μ z, m rs μ = some z → rs.length = n
/-- f(e, .., k = v, ..), what lacks stands in m -/
structure FKD (P : Program) (w : World) (K : PySem.W.Frag) (mg : Str → Option Value) (base : Heap) (cl : Nat → Addr) (k : Nat) (x : Str) (n : Nat) (m : MF) (np : Nat) (ks : List Str) : Prop where
  ok : ∃ (f : Addr) (fd : FuncData) (ps : List Str) (g : List Value → List Value → List Value) (gV : List V → List V → List V) (sp : Sp), FnOk P w K mg base CX0 k f fd ps sp ∧ mg x = some (.ref f) ∧ PySem.W.keepIn K (.ref f) = true ∧ KBn K fd ps np ks g gV ∧
    ∀ vs zs H Q E, vs.length = np → zs.length = ks.length → spM K cl n m (vs ++ zs) H Q E → sp (gV vs zs) H Q E
  ar : ∀ rs μ z, m rs μ = some z → rs.length = n
/-- the written ones and the defaults ds, put in the parameters' order -/
@[simp] def mDK (f : MF) (n : Nat) (is : List Nat) (ds : List D) : MF := fun rs μ => if rs.length = n then f (pick is (rs ++ ds.map R.dat)) μ else none
section
variable {X : Cx} {cl : Nat → Addr} {e : Expr} {es : List Expr} {kws : List Keyword} {ms mk : MA} {p pos : Pos} {K : PySem.W.Frag} {P : Program} {w : World} {mg : Str → Option Value} {base : Heap} {k j n np : Nat} {nm : Str} {mf : MF} {ks : List Str}
theorem FSD.x (S : FSD P w K mg base cl k nm n mf) : FSD P w K mg base cl k nm n (callX mf) := by
  obtain ⟨⟨f, fd, ps, us, dvs, sp, F, h1, h2, h3, h4, h5⟩, ar⟩ := S
  exact ⟨⟨f, fd, ps, us, dvs, sp, F, h1, h2, h3, h4, fun vs H Q E h => h5 vs H Q E (callX_sp h)⟩, callX_ar ar⟩
theorem FKD.x (S : FKD P w K mg base cl k nm n mf np ks) : FKD P w K mg base cl k nm n (callX mf) np ks := by
  obtain ⟨⟨f, fd, ps, g, gV, sp, F, h1, h2, h3, h5⟩, ar⟩ := S
  exact ⟨⟨f, fd, ps, g, gV, sp, F, h1, h2, h3, fun vs zs H Q E l1 l2 h => h5 vs zs H Q E l1 l2 (callX_sp h)⟩, callX_ar ar⟩
theorem FSD.of {f : Addr} {fd : FuncData} {ps : List Str} {us : List Value} {dvs : List V} {ds : List D} {n' : Nat} (F : FnOk P w K mg base CX0 k f fd ps (spM K cl n mf)) (hm : mg nm = some (.ref f)) (kp : PySem.W.keepIn K (.ref f) = true) (hb : Binds K fd ps us) (hd : Vals dvs us) (hr : ∀ F, Reps K cl F dvs ds) (hn : n' + ds.length = n) (ar : ∀ rs μ z, mf rs μ = some z → rs.length = n) : FSD P w K mg base cl k nm n' (mDfl mf ds) := by
  refine ⟨⟨f, fd, ps, us, dvs, _, F, hm, kp, hb, hd, fun vs H Q E ⟨F, α, μ, rs, r, μ', hl, C, ha, hm, k⟩ => ?_⟩, fun rs μ z h => ?_⟩
  · exact ⟨F, α, μ, rs ++ ds.map R.dat, r, μ', by rw [List.length_append, hl, (hr F).length, hn], C, ha.append (reps_args (hr F)), hm, k⟩
  · have := ar _ _ _ h
    rw [List.length_append, List.length_map] at this
    omega
theorem FKD.of {f : Addr} {fd : FuncData} {ps : List Str} {is : List Nat} {dvs : List V} {us : List Value} {ds : List D} (F : FnOk P w K mg base CX0 k f fd ps (spM K cl n mf)) (hm : mg nm = some (.ref f)) (kp : PySem.W.keepIn K (.ref f) = true) (hd : Vals dvs us)
    (hb : ∀ (s : Shared) (us' ws : List Value), K.In s.heap → us'.length = np → ws.length = ks.length → BindsTo s fd ⟨us', ks.zip ws⟩ (ps.zip (pick is (us' ++ ws ++ us)))) (hr : ∀ F, Reps K cl F dvs ds) (ar : ∀ rs μ z, mf rs μ = some z → rs.length = n) : FKD P w K mg base cl k nm (np + ks.length) (mDK mf (np + ks.length) is ds) np ks := by
  refine ⟨⟨f, fd, ps, fun a b => pick is (a ++ b ++ us), fun a b => pick is (a ++ b ++ dvs), _, F, hm, kp, ⟨hb, fun h1 h2 => vals_pick (Vals.append (Vals.append h1 h2) hd) is⟩, fun vs zs H Q E l1 l2 ⟨F, α, μ, rs, r, μ', hl, C, ha, hm, k⟩ => ?_⟩, fun rs μ z h => ?_⟩
  · have q := (ha.append (reps_args (α := α) (hr F))).pick is
    unfold mDK at hm
    split at hm
    · exact ⟨F, α, μ, _, r, μ', by rw [q.length]; exact ar _ _ _ hm, C, q, hm, k⟩
    · cases hm
  · unfold mDK at h
    split at h
    · rename_i e
      exact e
    · cases h
theorem FSD.v (S : FSD P w K mg base cl k nm n mf) (vs : List Bool) : FSD P w K mg base cl k nm n (callV vs mf) := by
  obtain ⟨⟨f, fd, ps, us, dvs, sp, F, h1, h2, h3, h4, h5⟩, ar⟩ := S
  exact ⟨⟨f, fd, ps, us, dvs, sp, F, h1, h2, h3, h4, fun vs H Q E h => h5 vs H Q E (callV_sp h)⟩, callV_ar ar⟩
theorem FKD.v (S : FKD P w K mg base cl k nm n mf np ks) (vs : List Bool) : FKD P w K mg base cl k nm n (callV vs mf) np ks := by
  obtain ⟨⟨f, fd, ps, g, gV, sp, F, h1, h2, h3, h5⟩, ar⟩ := S
  exact ⟨⟨f, fd, ps, g, gV, sp, F, h1, h2, h3, fun vs zs H Q E l1 l2 h => h5 vs zs H Q E l1 l2 (callV_sp h)⟩, callV_ar ar⟩
end
end DL
namespace DL
open PySem PySem.Spec PyProof.Rows L2
section
variable {X : Cx} {cl : Nat → Addr} {o : Expr} {mo : ME} {apos cpos : Pos}
end
end DL
set_option Elab.async false
set_option linter.all false
set_option maxRecDepth 100000
set_option maxHeartbeats 1000000

namespace DL
open PySem PySem.Spec PyProof.Rows L2
def rExt2 (K : PySem.W.Frag) : V → List V → Hp → VK → Prop := fun x vs H Q => ∃ l b xs zs, x = .ref l ∧ vs = [.ref b] ∧ H l = some (.lst xs) ∧ (H b = some (.lst zs) ∨ SqT K H b zs) ∧ xs.length + zs.length ≤ sizeLine ∧ Q .non (upd H l (.lst (xs ++ zs)))
section
variable {X : Cx} {K : PySem.W.Frag} {cl : Nat → Addr} {e o : Expr} {mo : ME} {ms : MA} {apos cpos : Pos}
@[simp] def fExt2 (k : Nat) (rs : List R) (μ : Mu) : Option (R × Mu) := match rs with
  | [.dat (.lst ys)] => match μ[k]? with
    | some (.l xs) => if xs.length + ys.length ≤ 100000 then some (.dat .non, μ.set k (.l (xs ++ ys))) else none
    | _ => none
  | [.dat (.tup ys)] => match μ[k]? with
    | some (.l xs) => if xs.length + ys.length ≤ 100000 then some (.dat .non, μ.set k (.l (xs ++ ys))) else none
    | _ => none
  | _ => none
end
end DL
set_option Elab.async false
set_option linter.all false
set_option maxRecDepth 100000
set_option maxHeartbeats 1000000

namespace L2
open PySem PySem.Spec PyProof.Rows GenW
section
variable {M : Model} {A : Around} {R : GenEnd} {Y : Protocol} {n : Nat} {s₀ s : Shared} {c : Code} {fs : List Frame} {env : Env} {K : Flow → Sem PySem.Fin} {J : Value → Sem PySem.Fin} {gd : Bool → Bool} {lv : List Value → List Value}
end
section
variable {prog : Program} {w : World} {A : Around} {R : GenEnd} {Y : Protocol} {n : Nat} {s₀ : Shared} {fs : List Frame} {s : Shared} {env : Env}
/-- what an exception does in a loop's turn -/
abbrev HHx (env : Env) : Value → Sem PySem.Fin := fun e => (do noteFrame e env; theTreesLotGoes e : Sem Unit).wrap (fun _ => .raise e) .raise id id
end
section
variable {X : Cx} {tg iter : Expr} {body : List Stmt} {pos : Pos} {wi : TI} {g : TG} {tb : TGn}
def tGFor (wi : TI) (g : TG) (tb : TGn) : TGn := fun D ys σ H => wi σ H fun J H1 => ∃ W : Nat → Nat → List V → St → Hp → Prop, (∃ m, W 0 m ys σ H1) ∧ ∀ i m ys σ H, W i m ys σ H →
  (J.stop i H ∧ D.nx ys σ H) ∨ (J.go i H ∧ ∃ N : List V → St → Hp → Prop, (∀ ys' σ' H', N ys' σ' H' → ∃ m', m' < m ∧ W (i + 1) m' ys' σ' H') ∧ ∀ x H', J.yld i H x H' → g x σ H' fun σ2 H2 => tb { D with nx := N, ct := N, bk := D.nx } ys σ2 H2)
end
end L2
set_option Elab.async false
set_option linter.all false
set_option maxRecDepth 100000
set_option maxHeartbeats 1000000

namespace DL
open PySem PySem.Spec PyProof.Rows L2
abbrev MGn := List R → Mu → Option (List D × Mu)
def spG (K : PySem.W.Frag) (cl : Nat → Addr) (n : Nat) (m : MGn) : SpG := fun vs H cont _ => ∃ F rs xs, vs.length = n ∧ Conc K cl F [] [] H ∧ ArgRs K cl F [] vs rs ∧ m rs [] = some (xs, []) ∧
  ∀ ys F' H', Evo F [] H F' [] H' → Conc K cl F' [] [] H' → Reps K cl F' ys xs → cont ys H'
@[simp] def mGen (n N : Nat) (mi : MI) : MGn := fun rs μ => if rs.length = n then
    match mi (rs ++ List.replicate (N - n) .no) μ with
    | some (xs, gd, []) => if gd [] = true ∧ xs.length ≤ 1000 then some (xs, []) else none
    | _ => none
  else none
section
variable {K : PySem.W.Frag} {cl : Nat → Addr}
/-- a generator def of the text, by its name -/
structure FG (P : Program) (w : World) (K : PySem.W.Frag) (mg : Str → Option Value) (base : Heap) (cl : Nat → Addr) (k : Nat) (x : Str) (n : Nat) (m : MGn) : Prop where
  ok : ∃ (f : Addr) (fd : FuncData) (ps : List Str), GFn P w K mg base k f fd ps (spG K cl n m) ∧ mg x = some (.ref f) ∧ PySem.W.keepIn K (.ref f) = true ∧ Binds K fd ps []
  ar : ∀ rs μ z, m rs μ = some z → rs.length = n
/-- .. called by names -/
structure FGK (P : Program) (w : World) (K : PySem.W.Frag) (mg : Str → Option Value) (base : Heap) (cl : Nat → Addr) (k : Nat) (x : Str) (n : Nat) (m : MGn) (ks : List Str) (is : List Nat) : Prop where
  ok : ∃ (f : Addr) (fd : FuncData) (ps : List Str), GFn P w K mg base k f fd ps (spG K cl n m) ∧ mg x = some (.ref f) ∧ PySem.W.keepIn K (.ref f) = true ∧ KBn K fd ps 0 ks (fun us ws => pick is (us ++ ws)) (fun us ws => pick is (us ++ ws))
  ar : ∀ rs μ z, m rs μ = some z → rs.length = n
/-- list(g(..)) -/
@[simp] def mListG (m : MGn) (ms : MA) : ME := fun δ μ => match ms δ μ with
  | none => none
  | some (rs, μ1) => match cellsIn rs with
    | [] => match m rs [] with
      | some (xs, []) => some (.fr xs, μ1)
      | _ => none
    | _ => none
/-- .. by names alone -/
@[simp] def mListGK (m : MGn) (nk : Nat) (is : List Nat) (ms : MA) : ME := fun δ μ => match ms δ μ with
  | none => none
  | some (rs, μ1) => if rs.length = nk then match cellsIn (pick is rs) with
    | [] => match m (pick is rs) [] with
      | some (xs, []) => some (.fr xs, μ1)
      | _ => none
    | _ => none else none
variable {X : Cx} {e : Expr} {es : List Expr} {ms : MA} {k j n : Nat} {x nm : Str} {m : MGn} {p p2 pos pos2 : Pos} {ks : List Str} {is : List Nat} {kws : List Keyword}
end
end DL
set_option Elab.async false
set_option linter.all false
set_option maxRecDepth 100000
set_option maxHeartbeats 1000000

namespace DL
open PySem PySem.Spec PyProof.Rows L2
section
variable {X : Cx} {cl : Nat → Addr} {e a b c : Expr} {es : List Expr} {m ma mb : ME} {ms : MA} {pos p : Pos} {K : PySem.W.Frag}
/-- x, y, z = e, ([], []), []: a value, a tuple of two new lists, a new list -/
@[simp] def mParTL (i j l : Nat) (ma : ME) : MS := fun δ μ => match ma δ μ with
  | none => none
  | some (r, μ1) => match toD r with
    | some d => some (.nx (((δ.set i (.dat d)).set j (.cel (μ1.length + 2))).set l (.cel (μ1.length + 3))) (μ1 ++ [Cel.l [], Cel.l [], Cel.t [.c μ1.length, .c (μ1.length + 1)], Cel.l []]))
    | none => none
/-- x[i] of a tuple with cells -/
@[simp] def fIxT : R → R → Mu → Option R
  | .cel k, .dat (.int i), μ => match μ[k]? with
    | some (.t es) => match atI es i with
      | some e => some (elR e)
      | none => none
    | _ => none
  | _, _, _ => none
end
end DL
set_option Elab.async false
set_option linter.all false
set_option maxRecDepth 100000
set_option maxHeartbeats 1000000

namespace DL
open PySem L2
section
variable {X : Cx} {K : PySem.W.Frag} {cl : Nat → Addr} {e o : Expr} {mo : ME} {ms : MA} {apos cpos : Pos}
@[simp] def fRemove (k : Nat) (rs : List R) (μ : Mu) : Option (R × Mu) := match rs with
  | [.dat (.int n)] => match μ[k]? with
    | some (.l xs) => match intsOf xs with
      | some ns => if n ∈ ns then some (.dat .non, μ.set k (.l ((ns.erase n).map D.int))) else none
      | none => none
    | _ => none
  | _ => none
end
end DL
set_option Elab.async false
set_option linter.all false
set_option maxRecDepth 100000
set_option maxHeartbeats 1000000

namespace DL
open PySem L2
section
variable {X : Cx} {K : PySem.W.Frag} {cl : Nat → Addr} {a : Expr} {ms : MA} {p pos : Pos}
@[simp] def fStr1 : List R → Mu → Option R
  | [.dat (.int i)], _ => if i.natAbs < 2 ^ 64 then some (.dat (.str (Str.ofString (toString i)))) else none
  | _, _ => none
theorem log2_lt64 {n : Nat} (h : n < 2 ^ 64) : n.log2 < 1920 := by
  by_cases h0 : n = 0
  · subst h0
    decide
  · have := (Nat.log2_lt h0).mpr h
    omega
end
end DL
set_option Elab.async false
set_option linter.all false
set_option maxRecDepth 100000
set_option maxHeartbeats 1000000

namespace DL
open PySem PySem.Spec PyProof.Rows L2
section
variable {X : Cx} {cl : Nat → Addr} {e o a b c tg : Expr} {es : List Expr} {m mo ma mb mc : ME} {ms : MA} {pos p apos : Pos} {K : PySem.W.Frag} {n k j : Nat} {mf : MF}
@[simp] def mAttrP (c i : Nat) (m : ME) : ME := fun δ μ => match m δ μ with
  | some (.dat (.ins c' xs), μ1) => if c' = c then match xs[i]? with
      | some d => some (.dat d, μ1)
      | none => none
    else none
  | some (.cel k, μ1) => match μ1[k]? with
    | some (.o c' j pd) => if c' = c then match μ1[j]? with
        | some (.x true) => match pd[i]? with
          | some (some e) => some (elR e, μ1)
          | _ => none
        | _ => none
      else none
    | _ => none
  | _ => none
@[simp] def mMethP (c : Nat) (f : MF) (mo : ME) (ms : MA) : ME := fun δ μ => match mo δ μ with
  | some (.dat (.ins c' xs), μ1) => if c' = c then match ms δ μ1 with
      | some (rs, μ2) => callX f (.dat (.ins c' xs) :: rs) μ2
      | none => none
    else none
  | some (.cel k, μ1) => match μ1[k]? with
    | some (.o c' j pd) => if c' = c then match μ1[j]? with
        | some (.x true) => match ms δ μ1 with
          | some (rs, μ2) => f (.cel k :: rs) μ2
          | none => none
        | _ => none
      else none
    | _ => none
  | _ => none
@[simp] def putP (i : Nat) (e : El) (pd : List (Option El)) : List (Option El) := (pd ++ List.replicate (i + 1 - pd.length) none).set i (some e)
theorem putP_get {pd : List (Option El)} {i j : Nat} {e : El} : (putP i e pd)[j]? = if i = j then some (some e) else (pd ++ List.replicate (i + 1 - pd.length) none)[j]? := by
  unfold putP
  rw [List.getElem?_set]
  have hl : i < (pd ++ List.replicate (i + 1 - pd.length) none).length := by
    rw [List.length_append, List.length_replicate]
    omega
  rw [if_pos hl]
theorem PdR.put {F : Hp} {α : List Addr} {v : V} {vs : List (Option V)} {pd : List (Option El)} {e : El} (h : PdR K cl F α vs pd) (i : Nat) (r : ElR K cl F α v e) : PdR K cl F α (SlX.putS i v vs) (putP i e pd) := by
  refine ⟨?_, fun j d' q => ?_⟩
  · unfold SlX.putS putP
    simp only [List.length_set, List.length_append, List.length_replicate, h.1]
  · by_cases hj : i = j
    · subst hj
      rw [putP_get, if_pos rfl] at q
      cases q
      exact ⟨v, SlX.putS_get i v vs, r⟩
    · rw [putP_get, if_neg hj] at q
      have q2 : pd[j]? = some (some d') := by
        by_cases hl : j < pd.length
        · rw [List.getElem?_append_left hl] at q
          exact q
        · rw [List.getElem?_append_right (by omega), List.getElem?_replicate] at q
          split at q
          · cases q
          · cases q
      obtain ⟨v', h1, h2⟩ := h.2 j d' q2
      exact ⟨v', (SlX.putS_ne (fun z => hj z.symm)).mpr h1, h2⟩
@[simp] def stoP (c i : Nat) (k : Nat) (e : El) (μ : Mu) : Option Mu := match μ[k]? with
  | some (.o c' j pd) => if c' = c then match μ[j]? with
      | some (.x bx) => match bx || pd.isEmpty with
        | true => some ((μ.set j (.x true)).set k (.o c j (putP i e pd)))
        | false => none
      | _ => none
    else none
  | _ => none
@[simp] def mSelfSet (c i : Nat) (m : ME) : MS := fun δ μ => match m δ μ with
  | some (r, μ1) => match toD r with
    | some d => match (δ[0]? : Option R) with
      | some (.cel k) => match stoP c i k (.d d) μ1 with
        | some μ2 => some (.nx δ μ2)
        | none => none
      | _ => none
    | none => none
  | none => none
end
end DL
set_option Elab.async false
set_option linter.all false
set_option maxRecDepth 100000
set_option maxHeartbeats 1000000

namespace DL
open PySem PySem.Spec PyProof.Rows L2
def pdAll (g : El → Option D) : List (Option El) → Option (List D)
  | [] => some []
  | some e :: pd => match g e, pdAll g pd with
    | some d, some ds => some (d :: ds)
    | _, _ => none
  | none :: _ => none
@[simp] def mInitO (c n N : Nat) (body : MS) : MIn := fun rs μ => if rs.length + 1 = n then
    match body (.cel μ.length :: (rs ++ List.replicate (N - n) .no)) (μ ++ [.o c (μ.length + 1) [], .x false]) with
    | some (.nx _ μ1) => match lowM μ.length μ1 with
      | true => match μ1[μ.length]? with
        | some (.o c' j pd) => if c' = c ∧ j = μ.length + 1 then match μ1[j]? with
            | some (.x true) => match pdAll (vlE μ.length μ1 4) pd with
              | some (d :: ds) => some (d :: ds, μ1.take μ.length)
              | _ => none
            | _ => none
          else none
        | _ => none
      | false => none
    | _ => none
  else none
section
variable {X : Cx} {cl : Nat → Addr} {K : PySem.W.Frag}
end
end DL
set_option Elab.async false
set_option linter.all false
set_option maxRecDepth 100000
set_option maxHeartbeats 1000000

namespace DL
open PySem PySem.Spec PyProof.Rows L2
@[simp] def keyD : Key → D
  | .inl i => .int i
  | .inr x => .str x
def itemsOf : List (Key × El) → Option (List D)
  | [] => some []
  | (k, .d d) :: r => match itemsOf r with
    | some ds => some (.tup [keyD k, d] :: ds)
    | none => none
  | (_, .c _) :: _ => none
section
variable {X : Cx} {cl : Nat → Addr} {e o a b c tg f : Expr} {es : List Expr} {m mo ma mb mc md mk mv : ME} {pos p apos cpos : Pos} {K : PySem.W.Frag} {mt : MT} {m1 m2 : MS} {st : Stmt} {sts : List Stmt} {ms : MA}
@[simp] def mItI (m : ME) : MI := fun δ μ => match m δ μ with
  | some (.cel k, μ1) => match μ1[k]? with
    | some (.dk true kvs) => match itemsOf kvs with
      | some xs => some (xs, yes, μ1)
      | none => none
    | _ => none
  | _ => none
@[simp] def mItK (m : ME) : MI := fun δ μ => match m δ μ with
  | some (.cel k, μ1) => match μ1[k]? with
    | some (.dk true kvs) => some (kvs.map fun p => keyD p.1, yes, μ1)
    | _ => none
  | _ => none
def iKeysL (td : TE) : TI := fun σ H R => td σ H fun x H1 => ∃ d kvs, x = .ref d ∧ H1 d = some (.dK kvs) ∧ ∀ od, R (Itk d od kvs) (upd H1 d (.frz od (.dK kvs)))
@[simp] def mItKF (m : ME) : MI := fun δ μ => match m δ μ with
  | some (.fc (.dk false kvs), μ1) => some (kvs.map fun p => keyD p.1, yes, μ1)
  | _ => none
@[simp] def mLkC (m0 m : ME) : ME := fun δ μ => match m0 δ μ with
  | some (.cel k, _) => match μ[k]? with
    | some (.dk false kvs) => match m δ (μ.set k (.dk true kvs)) with
      | some (r, μ2) => some (r, μ2.set k (.dk false kvs))
      | none => none
    | _ => none
  | _ => none
@[simp] def mLkSC (m0 : ME) (m : MS) : MS := fun δ μ => match m0 δ μ with
  | some (.cel k, _) => match μ[k]? with
    | some (.dk false kvs) => match m δ (μ.set k (.dk true kvs)) with
      | some fl => some (unl k (.dk false kvs) fl)
      | none => none
    | _ => none
  | _ => none
@[simp] def mDisp1 (mk mv : ME) : ME := fun δ μ => match mk δ μ with
  | some (rk, μ1) => match keyR rk with
    | some k => match mv δ μ1 with
      | some (.dat d, μ2) => some (.fc (.dk false [(k, .d d)]), μ2)
      | _ => none
    | none => none
  | none => none
@[simp] def mDPutC (mo mk mv : ME) : MS := fun δ μ => match mv δ μ with
  | some (.cel j, μ1) => match mo δ μ1 with
      | some (.cel i, μ2) => match mk δ μ2 with
        | some (rk, μ3) => match keyR rk with
          | some k => match μ3[i]? with
            | some (.dk false kvs) => if kvs.length < 100000 then some (.nx δ (μ3.set i (.dk false (putE kvs k (.c j))))) else none
            | _ => none
          | none => none
        | none => none
      | _ => none
  | _ => none
def dcLoop (gd : Mu → Bool) (t : TGT) (mt : MT) (mk mv : ME) (δ : Sl) : List D → List (Key × El) → Mu → Option (List (Key × El) × Mu)
  | [], acc, μ => if gd μ = true then some (acc, μ) else none
  | x :: xs, acc, μ => if gd μ = true then match t x δ with
      | none => none
      | some δ1 => match mt δ1 μ with
        | none => none
        | some (false, μ1) => dcLoop gd t mt mk mv δ xs acc μ1
        | some (true, μ1) => match mk δ1 μ1 with
          | none => none
          | some (rk, μ2) => match keyR rk with
            | none => none
            | some k => match mv δ1 μ2 with
              | none => none
              | some (r, μ3) => match toD r with
                | none => none
                | some d => if acc.length < 100000 then dcLoop gd t mt mk mv δ xs (putE acc k (.d d)) μ3 else none
    else none
@[simp] def mDc (mi : MI) (t : TGT) (mt : MT) (mk mv : ME) (vs : List Nat) : ME := fun δ μ => match mi δ μ with
  | none => none
  | some (xs, gd, μ1) => match dcLoop gd t mt mk mv (wipeR δ vs) xs [] μ1 with
    | none => none
    | some (kvs, μ2) => some (.fc (.dk false kvs), μ2)
@[simp] def fCount (xs : List D) (rs : List R) : Option D := match rs with
  | [.dat (.int k)] => match intsOf xs with
    | some ns => some (.int (ns.count k : Nat))
    | none => none
  | _ => none
def rgDn (i j : Int) : List D := (List.range (i - j).toNat).map fun k => D.int (i - ((k : Nat) : Int))
@[simp] def mItR3 (ms : MA) : MI := fun δ μ => match ms δ μ with
  | some ([.dat (.int i), .dat (.int j), .dat (.int c)], μ1) => if c = -1 ∧ -(2 ^ 62) ≤ i ∧ i < 2 ^ 62 ∧ -(2 ^ 62) ≤ j ∧ j < 2 ^ 62 then some (rgDn i j, yes, μ1) else none
  | _ => none
theorem si_range3 (hm : X.mg "range" = none) (ha : SA X cl [a, b, c] ms) (hg : Gl X "range" := by rfl) (hs : starEach [a, b, c] X.env = (false, eval a X.env) :: starEach [b, c] X.env := by rfl) (hpl : (backTo pos (starEach [b, c] X.env)).any (·.1) = false := by rfl) : SI X cl tg (.Call (.Name "range" p) [a, b, c] [] pos) (mItR3 ms) := by
  refine PI.weak (pi_range3 hg hm ha hs hpl) fun σ H Q ⟨F, α, δ, μ, xs, gd, μ', C, Ee, hm, k⟩ => ?_
  unfold mItR3 at hm
  split at hm
  · rename_i i j c μ1 h1
    split at hm
    · rename_i h2
      cases hm
      refine ⟨F, α, δ, μ, _, μ', C, Ee, h1, fun vs F1 H1 e1 c1 q1 => ?_⟩
      obtain ⟨rfl, h3, h4, h5, h6⟩ := h2
      cases q1 with
      | cons r rr =>
        cases rr with
        | cons r' rr =>
          cases rr with
          | cons r'' rr =>
            cases rr
            refine ⟨i, j, -1, (i - j).toNat, by rw [rep_int r, rep_int r', rep_int r''], RgC.neg h3 h4 h5 h6, k _ F1 H1 e1 c1 ⟨fun _ => True, fun m H2 x H3 => H3 = H2 ∧ x = .int (i + (m : Nat) * (-1)), ?_, fun _ _ _ _ _ _ _ _ _ => trivial, fun m d F2 α2 μ2 H2 x H3 hd sm ex fz c2 _ y => ?_⟩⟩
            · have l : (rgDn i j).length = (i - j).toNat := by unfold rgDn; rw [List.length_map, List.length_range]
              rw [l]
              exact ⟨fun m H2 hm _ => hm, fun H2 _ => Nat.le_refl _, fun m H2 x H3 _ _ y => y⟩
            · obtain ⟨rfl, rfl⟩ := y
              refine ⟨F2, Evo.refl, c2, ?_⟩
              unfold rgDn at hd
              rw [List.getElem?_map] at hd
              obtain ⟨q, hq, rfl⟩ := Option.map_eq_some_iff.mp hd
              obtain ⟨hlt, hq2⟩ := List.getElem?_eq_some_iff.mp hq
              rw [List.getElem_range] at hq2
              subst hq2
              rw [show i + (m : Int) * (-1) = i - (m : Int) by omega]
              exact .int _
    · cases hm
  · cases hm
end
end DL
set_option Elab.async false
set_option linter.all false
set_option maxRecDepth 100000
set_option maxHeartbeats 1000000

namespace DL
open PySem PySem.Spec PyProof.Rows L2
section
variable {X : Cx} {cl : Nat → Addr} {a b kx o : Expr} {mo mk : ME} {pos : Pos}
@[simp] def mDIn (neg : Bool) (mk mo : ME) : ME := fun δ μ => match mk δ μ with
  | some (rk, μ1) => match mo δ μ1 with
    | some (.cel i, μ2) => match keyR rk with
      | some k => match μ2[i]? with
        | some (.dk _ kvs) => some (.dat (.bl (xor neg (valK kvs k).isSome)), μ2)
        | _ => none
      | none => none
    | _ => none
  | none => none
end
end DL
set_option Elab.async false
set_option linter.all false
set_option maxRecDepth 100000
set_option maxHeartbeats 1000000

namespace DL
open PySem PySem.Spec PyProof.Rows L2
def rGtT (K : PySem.W.Frag) : R2 := fun x y H Q => ∃ (p q : Addr) (is js : List Int), x = .ref p ∧ y = .ref q ∧ SqT K H p (is.map V.int) ∧ SqT K H q (js.map V.int) ∧ Q (.bl (HT.lexLt js is)) H
@[simp] def fGt : R → R → Mu → Option R
  | .dat (.int i), .dat (.int j), _ => some (.dat (.bl (decide (j < i))))
  | .dat (.tup xs), .dat (.tup ys), _ => match intsOf xs, intsOf ys with
    | some is, some js => some (.dat (.bl (HT.lexLt js is)))
    | _, _ => none
  | _, _, _ => none
section
variable {X : Cx} {cl : Nat → Addr} {a b : Expr} {ma mb : ME} {pos : Pos} {K : PySem.W.Frag}
end
end DL
set_option Elab.async false
set_option linter.all false
set_option maxRecDepth 100000
set_option maxHeartbeats 2000000

namespace DL
open PySem PySem.Spec PyProof.Rows L2
/-- what is known of a built-in class below -/
structure EB (B newId initId : String) (bm : List Value) : Prop where
  fb : ExcBaseFacts B newId initId bm
  kf : PySem.W.KxsFacts B initId
  sf : StoreFacts B bm "object.__setattr__" "object"
  ob : bm.contains (.type "object") = true
  ty : bm.contains (.type B) = true
  al : ∀ K : PySem.W.Frag, PySem.W.alongIn K "__init__" bm = some (some (.builtin initId))
theorem eb_V : EB "ValueError" "ValueError.__new__" "ValueError.__init__" [.type "ValueError", .type "Exception", .type "BaseException", .type "object"] :=
  ⟨F.excBase_ValueError, PySem.W.kxs_ValueError, F.store_ValueError, by decide +kernel, by decide +kernel, fun K => by kernel_rfl⟩
/-- what the written part says of an own class right above it -/
structure ErC (K : PySem.W.Frag) (newId : String) (bm : List Value) (C : Addr) : Prop where
  cls : ∃ nm q N bs sn sub ab col dd k0 k1 k2 k3 k5, K.lookup C = some (excClassObj nm q C N bs bm true sn sub ab col dd k0 k1 k2 k3 k5 newId)
  sa : PySem.W.findIn K (.ref C) "__setattr__" = some (some (.builtin "object.__setattr__"))
  exC : PySem.W.subIn K (.ref C) (.type "BaseException") = some true
  tyC : PySem.W.typeIn K (.ref C) = some (.type "type")
  kC : PySem.W.keepIn K (.ref C) = true
/-- the same, looked up -/
def erB (K : PySem.W.Frag) (newId : String) (bm : List Value) (C : Addr) : Bool := match K.lookup C with
  | some ⟨.type "type", _, .cls cd, sl⟩ => (match cd.mro, sl.toList with
    | .ref C' :: bm', [_, _, _, _, some (.builtin n), _] => C' == C && n == newId && !cd.hasDel && cd.hasDict && decide (bm' = bm)
    | _, _ => false)
  | _ => false
section
variable {X : Cx} {pins : List (Addr × Obj)} {σ : L2.St} {H : Hp} {s : Shared} {a C dx : Addr} {f : Str} {y : V} {u : Value} {fs : List (Str × V)} {E : Value → Shared → Prop} {A : Around} {B newId initId : String} {bm : List Value}
theorem erc_cls (T : ErC X.K newId bm C) : ∃ cd, PySem.W.clsIn X.K C = some cd ∧ cd.mro = .ref C :: bm ∧ cd.hasDict = true ∧ ∃ o, X.K.lookup C = some o ∧ o.data = .cls cd := by
  obtain ⟨nm, q, N, bs, sn, sub, ab, col, dd, k0, k1, k2, k3, k5, hC⟩ := T.cls
  exact ⟨{ name := nm, bases := bs, mro := .ref C :: bm, ns := N, qualname := q, hasDict := true, slotNames := sn, subclasses := sub, abstract := ab, collection := col, hasDel := false }, by unfold PySem.W.clsIn; rw [hC] <;> rfl, rfl, rfl, _, hC, rfl⟩

open PySem.Builtin PySem.Builtin.ObjectAttr in
theorem eosa {prog : Program} {w : World} {R : Result → Shared → Prop} {hp : Heap} {g : Array GenState} {d : Drawn} {t : Nat} {os : OsState} {K : PySem.W.Frag} {name : Str} {tk : Tok} {v : Value} {x C : Addr} {ox : Obj} {od : Option Obj} {cd : ClassData}
    (W : EB B newId initId bm) (Z : K.In hp) (I : PySem.W.InstAt hp x ox C od) (hcd : PySem.W.clsIn K C = some cd) (hm : cd.mro = .ref C :: bm) (ha : PySem.W.findIn K (.ref C) name = some none)
    (hq : wpAny (model prog w) A.in1 (Builtin.ObjectAttr.storeInOwnDict (.ref x) (.ref C) (.str name tk) name v false)
      (fun fin s' => match fin with | .done f => R (.ok f) s' | .again c' => c'.quiet = true ∧ codeAny (model prog w) A c' R s') (fun e s' => R (.error e) s') ⟨hp, g, d, t, os⟩) :
    codeAny (model prog w) A (.call (.builtin "object.__setattr__") ⟨[.ref x, .str name tk, v], []⟩) R ⟨hp, g, d, t, os⟩ := by
  have SF := F.store_object
  have hob : PySem.W.mroIn K C (.type "object") = some true := by
    unfold PySem.W.mroIn
    rw [hcd, Option.bind_some, hm, if_neg (show ¬ (List.isEmpty (Value.ref C :: bm) = true) from Bool.false_ne_true), List.contains_cons, W.ob, Bool.or_true]
  have sub : PySem.W.Looks (model prog w) hp (isInstance (.ref x) (.type "object")) true := I.type.andThen (PySem.W.looks_mroIn Z hob)
  refine codeAny_call_builtin SF.slot.plain SF.entry (@PySem.W.check_slot (model prog w) _ _ ⟨hp, g, d, t, os⟩ "object.__setattr__" "object" "__setattr__" (.ref x) [.str name tk, v] [] _ SF.kind SF.split sub (SF.args (.ref x) (.str name tk) v) ?_)
  have hmr : PySem.W.Looks (model prog w) hp (mroOf (.ref C)) cd.mro := (PySem.W.looks_clsIn Z hcd).andThen .now
  have L3 : PySem.W.Looks (model prog w) hp (Builtin.ObjectAttr.storeTaker? none) none := .now
  have hpass : refuseLoop (.ref x) "__setattr__" cd.mro = pure () := by
    rw [hm, refuseLoop_ref]
    exact W.sf.passes _
  rw [PySem.W.osa_eq, refuse_eq]
  refine wpAny_bind (wpAny_bind (I.type.at (wpAny_bind (hmr.at ?_))))
  rw [hpass]
  refine wpAny_pure (wpAny_bind (I.type.at (wpAny_bind ((PySem.W.looks_findIn Z ha).at (wpAny_bind (L3.at ?_))))))
  exact hq
/-- self.f = y, the first one -/
theorem est_new {Q : Unit → Shared → Prop} (W : EB B newId initId bm) (T : ErC X.K newId bm C) (I : Inv X pins σ H s) (e : H a = some (exo a C none)) (hno : PySem.W.findIn X.K (.ref C) f = some none) (ry : RelV y u)
    (h : ∀ dx s', H dx = none → dx ≠ a → Inv X pins σ (upd (upd H dx (exd dx [(f, y)])) a (exo a C (some dx))) s' → Q () s') : wpAny (model X.prog X.w) A (setAttr (.ref a) f u) Q E s := by
  obtain ⟨cd, hcl, hm, hh, _⟩ := erc_cls T
  obtain ⟨t1, ho⟩ := exo_at I.hok e
  obtain ⟨hp, g, d, t, os⟩ := s
  have IA : PySem.W.InstAt hp a { cls := .ref C, dict := none, data := .fields #[.ref t1, .none, .none, .none, .bool false, .none] } C none := ⟨ho, rfl, rfl, trivial⟩
  have hxs : a ≠ hp.objs.size := Nat.ne_of_lt (Heap.lt_size ho)
  have key : ∀ (h' : Heap) (tk' dx : Nat), (∀ b o, b ≠ a → hp.get? b = some o → h'.get? b = some o) → hp.objs.size ≤ dx → dx ≠ a → h'.get? a = some { cls := .ref C, dict := some dx, data := .fields #[.ref t1, .none, .none, .none, .bool false, .none] } →
      h'.Ns1 dx (fun y => if y = f then some u else none) → Q () ⟨h', g, d, tk', os⟩ := fun h' tk' dx k dn dne hx hn => by
    have hnd : H dx = none := I.hok.fresh dn
    have nd : ∀ {b : Addr} {o : Obj}, hp.get? b = some o → b ≠ dx := fun {b o} q => Nat.ne_of_lt (Nat.lt_of_lt_of_le (Heap.lt_size q) dn)
    have na : ∀ {b : Addr}, H b = none → b ≠ a := fun {b} n z => by
      rw [z, e] at n
      cases n
    have Un1 : Un X.fs [] H (upd (upd H dx (exd dx [(f, y)])) a (exo a C (some dx))) hp h' := {
      keep := fun b o q n _ _ => k b o (na n) q
      slot := fun b o q n _ _ => ⟨o.slots, k b o (na n) q⟩
      free := fun b o q n _ => by rw [upd_ne (na n), upd_ne (nd q)]; exact n
      there := fun b o q _ => by
        by_cases hb : b = a
        · exact ⟨_, by rw [hb]; exact hx⟩
        · exact ⟨o, k b o hb q⟩
      tups := fun b xs q => by rw [upd_ne (at_ne e q exo_tup), upd_ne (ne_of_none q hnd)]; exact q
      frzs := fun b o v q => by rw [upd_ne (at_ne e q exo_frz), upd_ne (ne_of_none q hnd)]; exact q
      tbls := fun b ps q => ⟨#[], by rw [upd_ne (at_ne e q exo_tbl), upd_ne (ne_of_none q hnd), q]; simp⟩ }
    refine h dx _ hnd dne (I.un (t' := tk') Un1 fun b o q => ?_)
    by_cases hb : b = a
    · subst hb
      rw [upd_same] at q
      cases q
      exact exo_ok hx
    · rw [upd_ne hb] at q
      by_cases hd : b = dx
      · subst hd
        rw [upd_same] at q
        cases q
        exact exd_ok hn (relO_put (fs := []) ry fun g => True.intro)
      · rw [upd_ne hd] at q
        exact (I.hok b o q).stay (fun c v hc z => k c v (by
            rcases hc with hc | hc
            · rw [hc]
              exact hb
            · exact at_ne e hc exo_own) z)
          (fun c hc => by rw [upd_ne (at_ne e hc exo_own), upd_ne (ne_of_none hc hnd)]; exact hc) (fun c xs hc => by rw [upd_ne (at_ne e hc exo_tup), upd_ne (ne_of_none hc hnd)]; exact hc)
  refine PySem.W.set_plain I.kIn IA T.sa ?_
  refine eosa W I.kIn IA hcl hm hno ?_
  have hcls : PySem.W.Looks (model X.prog X.w) hp (classData C) cd := PySem.W.looks_clsIn I.kIn hcl
  obtain ⟨nm, bs, mro, ns, qn, hd, sn, sb, ab, col, del⟩ := cd
  dsimp only at hh
  subst hh
  unfold Builtin.ObjectAttr.storeInOwnDict Builtin.ObjectAttr.ownDictForStores
  repeat (first | with_reducible refine HandSPX.store_in_new ?_ ?_ | with_reducible refine wpAny_loadPart_at ho ?_ | with_reducible refine hcls.at ?_ | wp_step)
  · exact ⟨_, #[], _, (Heap.get?_update_ne _ _ _ _ hxs.symm).trans (Heap.get?_push_at rfl rfl), rfl, fun e he => absurd he (by simp), fun _ => rfl⟩
  · intro h' tk' hn' hs
    have hx₁ : (hp.push { cls := .type "dict", data := .dict #[] }).get? a = some { cls := .ref C, data := .fields #[.ref t1, .none, .none, .none, .bool false, .none] } := Heap.get?_push_of_some _ ho
    refine key h' tk' hp.objs.size (fun b o hb ho => ?_) (Nat.le_refl _) hxs.symm ?_ hn'
    · exact (hs.2 b (Nat.ne_of_lt (Heap.lt_size ho))).trans ((Heap.get?_update_ne _ _ _ _ hb).trans (Heap.get?_push_of_some _ ho))
    · exact (hs.2 a hxs).trans (Heap.get?_update_self _ hx₁ rfl)
/-- self.f = y, a further one -/
theorem est_old {Q : Unit → Shared → Prop} (W : EB B newId initId bm) (T : ErC X.K newId bm C) (I : Inv X pins σ H s) (e : H a = some (exo a C (some dx))) (ed : H dx = some (exd dx fs)) (hl : fs.length ≤ 900) (hno : PySem.W.findIn X.K (.ref C) f = some none) (ry : RelV y u)
    (h : ∀ s', Inv X pins σ (upd H dx (exd dx ((f, y) :: fs))) s' → Q () s') : wpAny (model X.prog X.w) A (setAttr (.ref a) f u) Q E s := by
  obtain ⟨cd, hcl, hm, hh, _⟩ := erc_cls T
  obtain ⟨t1, ho⟩ := exo_at I.hok e
  obtain ⟨mA, hns, rel⟩ := exd_at I.hok ed
  have hw := within_of rel
  obtain ⟨hp, g, d, t, os⟩ := s
  obtain ⟨oD, _, _, hoD, _, _⟩ := hns.count hw
  have IA : PySem.W.InstAt hp a { cls := .ref C, dict := some dx, data := .fields #[.ref t1, .none, .none, .none, .bool false, .none] } C (some oD) := ⟨ho, rfl, rfl, hoD⟩
  refine PySem.W.set_plain I.kIn IA T.sa ?_
  refine eosa W I.kIn IA hcl hm hno ?_
  have hcls : PySem.W.Looks (model X.prog X.w) hp (classData C) cd := PySem.W.looks_clsIn I.kIn hcl
  obtain ⟨nm, bs, mro, ns, qn, hd, sn, sb, ab, col, del⟩ := cd
  dsimp only at hh
  subst hh
  unfold Builtin.ObjectAttr.storeInOwnDict Builtin.ObjectAttr.ownDictForStores
  repeat (first | with_reducible refine PySem.OEX.store_in_old hns hw (by rw [List.length_map]; omega) ?_ | with_reducible refine wpAny_loadPart_at ho ?_ | with_reducible refine hcls.at ?_ | wp_step)
  intro h' tk' hn' hs
  have hd' : ∃ o, h'.get? dx = some o := by
    obtain ⟨o, _, _, e', _⟩ := hn'
    exact ⟨o, e'⟩
  exact h _ (I.write (t' := tk') (x := dx) (e := dx) (o := exd dx ((f, y) :: fs)) (by rw [ed]; exact True.intro) (.inl rfl) (fun b o hb ho => (hs.2 b hb).trans ho) hd' (exd_ok hn' (relO_put ry rel)))
/-- the built-in __init__ bound to the error, called: nothing of it is told -/
theorem call_mw {us : List Value} {v : Addr} {Q : Value → Shared → Prop} (W : EB B newId initId bm) (T : ErC X.K newId bm C) (I : Inv X pins σ H s) (e : H a = some (exo a C none)) (hu : s.heap.get? v = some (PySem.W.kxs_mw initId a)) (hl : us.length ≤ sizeLine)
    (h : ∀ s', Inv X pins σ H s' → Q .none s') : wpAny (model X.prog X.w) A (call (.ref v) us) Q E s := by
  obtain ⟨nm, q, N, bs, sn, sub, ab, col, dd, k0, k1, k2, k3, k5, hC⟩ := T.cls
  obtain ⟨t1, ho⟩ := exo_at I.hok e
  obtain ⟨hp, g, d, t, os⟩ := s
  refine wpAny_call (codeAny_of_tree ?_)
  show wpAny _ A.in1 (callAny (.ref v) ⟨us, []⟩) _ _ _
  simp only [callAny]
  refine wpAny_bind (wpAny_load hu ?_)
  simp only [PySem.W.kxs_mw, show (Value.type "method-wrapper" == Value.type "method" || Value.type "method-wrapper" == Value.type "builtin_function_or_method" || Value.type "method-wrapper" == Value.type "method-wrapper") = true by decide, if_true]
  refine PySem.W.KFB.if_so (by decide) ?_
  refine wpAny_bind (PySem.W.check_bound_init W.fb.toExcCallFacts (I.kIn _ _ hC) ho rfl ?_)
  refine wpAny_bind (wpAny_pure (wpAny_pure ?_))
  refine ⟨plainId_quiet W.fb.init.plain _, codeAny_builtin W.fb.initEntry ?_⟩
  refine PySem.W.exc_init_tree (cls := .ref C) (t0 := t1) (dv := none) (c2 := .none) (c3 := .none) (b4 := .bool false) ho hl fun h' k hx _ => ?_
  have J := I.write (t' := t) (x := a) (e := a) (o := exo a C none) (by rw [e]; exact True.intro) (.inl rfl) k ⟨_, hx⟩ (exo_ok hx)
  have eu : upd H a (exo a C none) = H := by
    funext b
    by_cases hb : b = a
    · rw [hb, upd_same, e]
    · rw [upd_ne hb]
  rw [eu] at J
  exact h _ J
end
end DL
set_option Elab.async false
set_option linter.all false
set_option maxRecDepth 100000
set_option maxHeartbeats 2000000

namespace DL
open PySem PySem.Spec PyProof.Rows L2 NdefX
/-- what the written part says of the def __init__ at f of the class at C -/
structure SupK (P : Program) (K : PySem.W.Frag) (mg : Str → Option Value) (f C cc : Addr) (F : NF) (sf : Str) (fd : FuncData) : Prop where
  fd : ∃ oc od dV kV doc pm an ct osl, fd = PySem.W.fnX F.name F.qual F.params F.body F.scope F.cl dV kV doc pm an (.ref F.c) ct ∧ K.lookup f = some ⟨oc, od, .func fd, osl⟩
  cl : F.cl = [(("__class__" : Str), cc)]
  ar : ∃ ar : Arg, (F.params.posonlyargs ++ F.params.args).head? = some ar ∧ ar.arg = sf
  code : PySem.W.codeIn K (.ref F.c) F.qual = true
  cda : ∃ ccl cdd vs ccs file tf, K.lookup F.c = some ⟨ccl, cdd, .fields vs, ccs⟩ ∧ vs[2]? = some (.str file tf) ∧ ((P.main.file : Str) == file) = true
  cell : ∃ cl cld csl, K.lookup cc = some ⟨cl, cld, .cell (some (.ref C)), csl⟩
  top : (P.main.scope.names.lookup ("super" : Str)).isSome = false
  sup : mg "super" = none
  ho : PySem.W.nsIn K cStatics "thirdparty.any" = some none
  kp : PySem.W.keepIn K (.ref f) = true
section
variable {CX : CXT} {P : Program} {w : World} {K : PySem.W.Frag} {mg : Str → Option Value} {base : Heap} {N ps : List Str} {F : NF} {f a C cc : Addr} {A : Around} {outer : List Env} {s : Shared} {H : Hp} {E : XK} {sf : Str} {B newId initId : String} {bm : List Value} {fd : FuncData}
theorem sup_stmt {s' : Shared} {σ : L2.St} {H' : Hp} {e : Expr} {te : TE} {p0 p1 p2 p3 p4 : Pos} {pl : Sem Bool} (W : EB B newId initId bm) (T : ErC K newId bm C) (Sk : SupK P K mg f C cc F sf fd) (S : NScope N ps ["__class__"] F.scope)
    (hks : F.scope.names.lookup ("super" : Str) = some .globalImplicit) (hs0 : N[0]? = some sf) (hsl : F.scope.names.lookup sf = some .local)
    (I : Inv (ncx CX P w K mg base N F f A outer s H E) [] σ H' s') (ea : H' a = some (exo a C none)) (h0 : σ[0]? = some (some (.ref a))) (hH : PySem.W.mroIn K C (.ref C) = some true) (hB : PySem.W.subIn K (.ref C) (.type B) = some true)
    (he : PE (ncx CX P w K mg base N F f A outer s H E) e te) (hq : te σ H' fun x H2 => [x].length = 1 ∧ H2 = H') {Q : Flow → Shared → Prop}
    (hst : starEach [e] (envF F f s.heap.objs.size) = (false, eval e (envF F f s.heap.objs.size)) :: starEach [] (envF F f s.heap.objs.size))
    (hsw : swapsWith (.Call (.Attribute (.Call (.Name "super" p0) [] [] p1) "__init__" p2) [e] [] p3) none p4.line (envF F f s.heap.objs.size) = pure false)
    (hmc : eval (.Call (.Attribute (.Call (.Name "super" p0) [] [] p1) "__init__" p2) [e] [] p3) (envF F f s.heap.objs.size) = (do
        let ov ← attributeBase (.Call (.Name "super" p0) [] [] p1) "__init__" (envF F f s.heap.objs.size) (eval (.Call (.Name "super" p0) [] [] p1) (envF F f s.heap.objs.size))
        standAt p2.atName
        let (g, first) ← holding [ov] (getMethod ov "__init__" pl)
        callWith p3 g first (backTo p3 (starEach [e] (envF F f s.heap.objs.size))) []))
    (k : ∀ s2, Inv (ncx CX P w K mg base N F f A outer s H E) [] σ H' s2 → Q .next s2) :
    _root_.PySem.wpAt (model P w) (ncx CX P w K mg base N F f A outer s H E).A (.func F.body (envF F f s.heap.objs.size)) (exec (.Expr (.Call (.Attribute (.Call (.Name "super" p0) [] [] p1) "__init__" p2) [e] [] p3) p4) (envF F f s.heap.objs.size)) Q (ncx CX P w K mg base N F f A outer s H E).xe s' := by
  obtain ⟨oc, od, dV, kV, doc, pm, an, ct, osl, rfl, lk⟩ := Sk.fd
  obtain ⟨ar, har, rfl⟩ := Sk.ar
  obtain ⟨ccl, cdd, vs, ccs, file, tf, hcda, hvs, hfile⟩ := Sk.cda
  obtain ⟨cl, cld, csl, hcell⟩ := Sk.cell
  obtain ⟨cd, hcl, hm, hh, oC, hC1, hC2⟩ := erc_cls (X := ncx CX P w K mg base N F f A outer s H E) T
  obtain ⟨t1, ho⟩ := exo_at I.hok ea
  have hkc : F.scope.names.lookup ("__class__" : Str) = some .free := S.frk _ List.mem_cons_self
  have ht : (ncx CX P w K mg base N F f A outer s H E).env.scope.kind = .function := S.kind
  obtain ⟨m, hns, hlk⟩ := id I.loc
  obtain ⟨u, ru, lu⟩ := hlk 0 ar.arg (.ref a) hs0 h0 (.inl hsl)
  obtain rfl : u = Value.ref a := ru
  have hv : m ar.arg = some (.ref a) := by
    rcases lu with ⟨_, z⟩ | ⟨z, _⟩
    · exact z
    · have z : F.scope.names.lookup ar.arg = some .cell ∨ F.scope.names.lookup ar.arg = some .free := z
      rw [hsl] at z
      rcases z with z | z <;> cases z
  obtain ⟨mb, b1, b2⟩ := I.ok.mod.blt
  refine ks_wpAt_Expr_any ?_ (by show (F.scope.kind == .module && _) = false; rw [S.kind]; rfl) hsw
  refine ks_wpAt_MethodCall (pl := pl) ?_ hmc
  refine ks_wpAt_super_base (env := envF F f s.heap.objs.size) hks hkc (by decide) rfl (I.kIn _ _ lk) rfl har rfl (I.kIn _ _ hcda) rfl hvs hfile Sk.top ?_
  refine PySem.W.ks_loadName_global S.kind hks (Calls.loadGlobal_builtin (I.ok.mod.glob.keeps I.bk) Sk.sup (b1.keeps I.bk) ((b2 _ (by decide)).trans (by first | boot_by_name | rfl | kernel_rfl)) ⟨rfl, ?_⟩)
  refine wpAny_loadName_free S.kind hkc (by show F.cl.lookup _ = _; rw [Sk.cl]; rfl) ⟨_, I.kIn _ _ hcell, rfl⟩ ?_
  refine wpAny_loadName_local S.kind hsl hns hv ?_
  obtain ⟨hp, g, d, t, os⟩ := s'
  have hCg : hp.get? C = some oC := I.kIn _ _ hC1
  refine ks_wpAny_isType_cls hCg hC2 ⟨rfl, ?_⟩
  refine ks_wpAny_call_super hCg hC2 ho rfl (fun c z => by cases z) (PySem.W.looks_mroIn I.kIn hH) (fun h' hso kk => ?_)
  have I1 : Inv (ncx CX P w K mg base N F f A outer s H E) [] σ H' ⟨h', g, d, t, os⟩ := I.kept (t' := t) kk
  have IA : PySem.W.InstAt h' a { cls := .ref C, dict := none, data := .fields #[.ref t1, .none, .none, .none, .bool false, .none] } C none := ⟨kk _ _ ho, rfl, rfl, trivial⟩
  refine PySem.W.kxs_getMethod W.kf hso (PySem.W.looks_opaque I1.kIn Sk.ho) (l₀ := cd.mro) ?_ rfl I1.kIn ?_ (IA.type.andThen (PySem.W.looks_subIn I1.kIn hB)) (PySem.W.ks_ne I1.kIn IA hcl) (by decide) ?_
  · exact fun A Q E s k q => wpAny_bind ((PySem.W.looks_clsIn I1.kIn hcl) A _ E s k (wpAny_pure q))
  · rw [hm]
    have : ((Value.ref C :: bm).dropWhile (· != .ref C)).drop 1 = bm := by simp [List.dropWhile_cons]
    rw [this]
    exact W.al K
  have kp : ∀ b o, h'.get? b = some o → (h'.push (PySem.W.kxs_mw initId a)).get? b = some o := fun b o z => Heap.get?_push_of_some _ z
  have I2 : Inv (ncx CX P w K mg base N F f A outer s H E) [] σ H' ⟨h'.push (PySem.W.kxs_mw initId a), g, d, t + 1, os⟩ := I1.kept (t' := t + 1) kp
  have hu : (h'.push (PySem.W.kxs_mw initId a)).get? h'.objs.size = some (PySem.W.kxs_mw initId a) := Heap.get?_push_size _ rfl
  have nu : H' h'.objs.size = none := I1.hok.fresh (Nat.le_refl _)
  have I3 : Inv (ncx CX P w K mg base N F f A outer s H E) [(h'.objs.size, PySem.W.kxs_mw initId a)] σ H' ⟨h'.push (PySem.W.kxs_mw initId a), g, d, t + 1, os⟩ := I2.pins_of fun p hp => by
    rw [List.mem_singleton.mp hp]
    refine ⟨hu, nu, fun z => ?_, I1.nofs (Nat.le_refl _), fun v z => by cases z⟩
    have := I1.lt
    rw [← z] at this
    exact absurd this (Nat.lt_irrefl _)
  rw [hst]
  refine PySem.W.kxs_callWith (i := initId) (x := a) (by rfl) ?_
  refine PySem.Calls.evalArgs_plain ?_
  have hpa := (pa_cons (X := (ncx CX P w K mg base N F f A outer s H E)) he pa_nil hst).run p3 _ _ σ H' (fun vs H2 => vs.length = 1 ∧ H2 = H') I3 hq
  replace hpa := hpa
  have hst2 : starEach [e] (ncx CX P w K mg base N F f A outer s H E).env = (false, eval e (ncx CX P w K mg base N F f A outer s H E).env) :: starEach [] (ncx CX P w K mg base N F f A outer s H E).env := hst
  rw [hst2] at hpa
  refine thn hpa fun us s2 ⟨vs', H2, J, rv, l1, e2⟩ => ?_
  subst e2
  have pin := (J.pin (h'.objs.size, PySem.W.kxs_mw initId a) (by simp)).1
  refine ⟨pin, ?_⟩
  have hl : us.length ≤ sizeLine := by
    rw [← rv.length, l1, sizeLine_eq]
    decide
  have J0 : Inv (ncx CX P w K mg base N F f A outer s H E) [] σ H2 s2 := ⟨J.ok, J.os, J.bare, J.base, J.loc, J.cell, J.free, J.freeC, fun p hp => J.pin p (List.mem_append_left _ (by simpa using hp)), J.hok, J.len⟩
  exact call_mw W T J0 ea pin hl fun s3 J3 => k s3 J3
end

def TxE (X : Cx) (σ : L2.St) (H : Hp) (e : Expr) : Prop := ∃ t, PE X e t ∧ ∀ Q : VK, (∀ y : Str, Q (.str y) H) → t σ H Q
/-- a part of a text: a short text, a number -/
def PtE (X : Cx) (σ : L2.St) (H : Hp) (e : Expr) : Prop := ∃ t, PE X e t ∧ ∀ Q : VK, (∀ y : Str, y.length ≤ 100 → Q (.str y) H) → t σ H Q
section
variable {X : Cx} {σ : L2.St} {H : Hp}
theorem pt_cst {x : Str} {j : Nat} {pos : Pos} (h : x.length ≤ 100) : PtE X σ H (.Constant (.str x) j pos) := ⟨_, pe_str, fun Q k => k x h⟩
theorem pt_fmt {i : Nat} {n : Int} {e : Expr} {pos : Pos} (he : PE X e (tVar i)) (h : σ[i]? = some (some (.int n))) (hn : n.natAbs < 2 ^ 64) : PtE X σ H (.FormattedValue e (-1) none pos) := by
  refine ⟨_, pe_fmt he, fun Q k => ⟨.int n, h, .inr ⟨n, rfl, log2_lt64 hn, k _ ?_⟩⟩⟩
  have e := int_text_length_le10 (a := n) (k := 20) (by decide) (Nat.lt_of_lt_of_le hn (by decide))
  show (Str.ofString (toString n)).length ≤ 100
  rw [PySem.ofString_length]
  omega
theorem pts_ok : ∀ {es : List Expr}, (∀ e ∈ es, PtE X σ H e) → ∃ ts, PJ X es ts ∧ ∀ (acc : Str) (Q : Str → Hp → Prop), acc.length + 100 * es.length ≤ 100000 → (∀ y, Q y H) → tJs ts acc σ H Q
  | [], _ => ⟨[], .nil, fun acc Q _ k => k acc⟩
  | e :: es, h => by
    obtain ⟨t, h1, h2⟩ := h e List.mem_cons_self
    obtain ⟨ts, h3, h4⟩ := pts_ok (es := es) fun x hx => h x (List.mem_cons_of_mem _ hx)
    refine ⟨t :: ts, .cons h1 h3, fun acc Q hl k => h2 _ fun y hy => ⟨y, rfl, ?_, h4 _ _ ?_ k⟩⟩
    · rw [PySem.Str.length_append, sizeLine_eq]
      rw [List.length_cons] at hl
      omega
    · rw [PySem.Str.length_append]
      rw [List.length_cons] at hl
      omega
theorem tx_join {e1 e2 : Expr} {es : List Expr} {pos : Pos} (hl : es.length ≤ 20) (h : ∀ e ∈ e1 :: e2 :: es, PtE X σ H e) : TxE X σ H (.JoinedStr (e1 :: e2 :: es) pos) := by
  obtain ⟨ts, h1, h2⟩ := pts_ok h
  exact ⟨_, pe_joined h1, fun Q k => h2 _ _ (by
    show 0 + 100 * (es.length + 1 + 1) ≤ 100000
    omega) k⟩
end
/-- an error with these fields by now -/
def ErSt (C a : Addr) (fs : List (Str × V)) (H0 H : Hp) : Prop := (fs = [] ∧ H = H0) ∨ ∃ d, H0 d = none ∧ d ≠ a ∧ H = upd (upd H0 d (exd d fs)) a (exo a C (some d))
/-- self.f = e -/
def tEst (C : Addr) (f : Str) (to te : TE) : TS := fun D σ H => te σ H fun y H1 => to σ H1 fun x H2 => ∃ a : Addr, x = .ref a ∧
  ((H2 a = some (exo a C none) ∧ ∀ dx, H2 dx = none → dx ≠ a → D.nx σ (upd (upd H2 dx (exd dx [(f, y)])) a (exo a C (some dx)))) ∨
    ∃ (dx : Addr) (fs : List (Str × V)), H2 a = some (exo a C (some dx)) ∧ H2 dx = some (exd dx fs) ∧ fs.length ≤ 900 ∧ D.nx σ (upd H2 dx (exd dx ((f, y) :: fs))))
theorem ps_est {X : Cx} {o e : Expr} {to te : TE} {f : Str} {p' pos : Pos} {C : Addr} {B newId initId : String} {bm : List Value} (W : EB B newId initId bm) (T : ErC X.K newId bm C) (hno : PySem.W.findIn X.K (.ref C) f = some none) (ho : PE X o to) (he : PE X e te)
    (hs : swapsWith e (some (.Attribute o f p')) pos.line X.env = pure false := by rfl) : PS X (.Assign [.Attribute o f p'] e pos) (tEst C f to te) := by
  refine ⟨fun pins s σ H D I h => ?_⟩
  refine plainObj_wpAny_Assign_Attribute (thn (he.run pins s σ H _ I h) fun v s1 ⟨y, H1, I1, r1, q1⟩ => thn (ho.run pins s1 σ H1 _ I1 q1) fun u s2 ⟨x, H2, I2, r2, a, ex, q⟩ => ?_) hs
  subst ex
  obtain rfl : u = Value.ref a := r2
  rcases q with ⟨ea, q⟩ | ⟨dx, fs, ea, ed, hl, q⟩
  · exact est_new W T I2 ea hno r1 fun dx s' n ne J => ⟨σ, _, J, q dx n ne⟩
  · exact est_old W T I2 ea ed hl hno r1 fun s' J => ⟨σ, _, J, q⟩
/-- the fields, each of a parameter (its place behind self) -/
inductive Flds (X : Cx) (C : Addr) : List Stmt → List (Str × Nat) → Prop
  | nil : Flds X C [] []
  | cons {st : Stmt} {r : List Stmt} {f : Str} {i : Nat} {l : List (Str × Nat)} : PS X st (tEst C f (tVar 0) (tVar (i + 1))) → Flds X C r l → Flds X C (st :: r) ((f, i) :: l)
def putW (ws : List V) (l : List (Str × Nat)) (fs : List (Str × V)) : List (Str × V) := l.foldl (fun fs p => (p.1, ws.getD p.2 .non) :: fs) fs
theorem upd_again {H : Hp} {d a : Addr} {x y z : HO} (h : d ≠ a) : upd (upd (upd H d x) a y) d z = upd (upd H d z) a y := by
  funext b
  by_cases hb : b = d
  · subst hb
    rw [upd_same, upd_ne h, upd_same]
  · by_cases ha : b = a
    · subst ha
      rw [upd_ne hb, upd_same, upd_same]
    · rw [upd_ne hb, upd_ne ha, upd_ne hb, upd_ne ha, upd_ne hb]
theorem flds_ok {X : Cx} {C a : Addr} {ws : List V} {σ : L2.St} {H0 : Hp} {D : Ends} (h0 : H0 a = some (exo a C none)) (hs : σ[0]? = some (some (.ref a))) (hσ : ∀ (i : Nat) (v : V), ws[i]? = some v → σ[i + 1]? = some (some v)) :
    ∀ {st : List Stmt} {l : List (Str × Nat)}, Flds X C st l → ∃ t, PSs X st t ∧ ∀ (H : Hp) (fs : List (Str × V)), (∀ p ∈ l, p.2 < ws.length) → fs.length + l.length ≤ 800 → ErSt C a fs H0 H → (∀ H2, ErSt C a (putW ws l fs) H0 H2 → D.nx σ H2) → t D σ H
  | _, _, .nil => ⟨_, pss_nil, fun H fs _ _ e k => k H e⟩
  | _, _, .cons (st := st) (r := r) (f := f) (i := i) (l := l) p q => by
    obtain ⟨t, h1, h2⟩ := flds_ok h0 hs hσ q
    refine ⟨_, pss_cons p h1, fun H fs hw hl e k => ?_⟩
    have hi : i < ws.length := hw (f, i) List.mem_cons_self
    have hv : ws[i]? = some ws[i] := List.getElem?_eq_getElem hi
    have gd : ws.getD i .non = ws[i] := by rw [List.getD_eq_getElem?_getD, hv]; rfl
    have kk : ∀ H2, ErSt C a (putW ws l ((f, ws[i]) :: fs)) H0 H2 → D.nx σ H2 := fun H2 z => k H2 (by
      show ErSt C a (putW ws l ((f, ws.getD i .non) :: fs)) H0 H2
      rw [gd]
      exact z)
    rw [List.length_cons] at hl
    refine ⟨ws[i], hσ i _ hv, .ref a, hs, a, rfl, ?_⟩
    rcases e with ⟨rfl, rfl⟩ | ⟨d, nd, ne, rfl⟩
    · refine .inl ⟨h0, fun dx n ne => ?_⟩
      exact h2 _ _ (fun p hp => hw p (List.mem_cons_of_mem _ hp)) (by simp at hl ⊢; omega) (.inr ⟨dx, n, ne, rfl⟩) kk
    · refine .inr ⟨d, fs, upd_same, by rw [upd_ne ne, upd_same], by omega, ?_⟩
      rw [upd_again ne]
      exact h2 _ _ (fun p hp => hw p (List.mem_cons_of_mem _ hp)) (by simp at hl ⊢; omega) (.inr ⟨d, nd, ne, rfl⟩) kk
/-- the promise of such an __init__ -/
def spEr (C : Addr) (n : Nat) (l : List (Str × Nat)) : Sp := fun vs H Q _ => ∃ a ws, vs = .ref a :: ws ∧ vs.length = n ∧ H a = some (exo a C none) ∧ (∀ v ∈ ws, ∃ i : Int, v = .int i ∧ i.natAbs < 2 ^ 64) ∧ ∀ H2, ErSt C a (putW ws l []) H H2 → Q .non H2
section
variable {CX : CXT} {P : Program} {w : World} {K : PySem.W.Frag} {mg : Str → Option Value} {base : Heap} {N ps : List Str} {F : NF} {f C cc : Addr} {k : Nat} {l : List (Str × Nat)} {sf : Str} {B newId initId : String} {bm : List Value} {fd : FuncData} {e : Expr} {rest : List Stmt} {p0 p1 p2 p3 p4 : Pos} {pl : Sem Bool}
theorem fn_super (W : EB B newId initId bm) (T : ErC K newId bm C) (Sk : SupK P K mg f C cc F sf fd) (S : NScope N ps ["__class__"] F.scope)
    (hks : F.scope.names.lookup ("super" : Str) = some .globalImplicit) (hp0 : ps[0]? = some sf) (hH : PySem.W.mroIn K C (.ref C) = some true) (hB : PySem.W.subIn K (.ref C) (.type B) = some true)
    (hbody : F.body = .Expr (.Call (.Attribute (.Call (.Name "super" p0) [] [] p1) "__init__" p2) [e] [] p3) p4 :: rest) (hl : l.length ≤ 700) (hli : ∀ p ∈ l, p.2 + 1 < ps.length)
    (hst : ∀ L, starEach [e] (envF F f L) = (false, eval e (envF F f L)) :: starEach [] (envF F f L))
    (hsw : ∀ L, swapsWith (.Call (.Attribute (.Call (.Name "super" p0) [] [] p1) "__init__" p2) [e] [] p3) none p4.line (envF F f L) = pure false)
    (hmc : ∀ L, eval (.Call (.Attribute (.Call (.Name "super" p0) [] [] p1) "__init__" p2) [e] [] p3) (envF F f L) = (do
        let ov ← attributeBase (.Call (.Name "super" p0) [] [] p1) "__init__" (envF F f L) (eval (.Call (.Name "super" p0) [] [] p1) (envF F f L))
        standAt p2.atName
        let (g, first) ← holding [ov] (getMethod ov "__init__" pl)
        callWith p3 g first (backTo p3 (starEach [e] (envF F f L))) []))
    (htx : ∀ (A : Around) (outer : List Env) (s : Shared) (H : Hp) (E : XK) (σ : L2.St), (∀ i, i + 1 < ps.length → ∃ n : Int, σ[i + 1]? = some (some (.int n)) ∧ n.natAbs < 2 ^ 64) → TxE (ncx CX P w K mg base N F f A outer s H E) σ H e)
    (hfl : ∀ (A : Around) (outer : List Env) (s : Shared) (H : Hp) (E : XK), Flds (ncx CX P w K mg base N F f A outer s H E) C rest l) : FnOk P w K mg base CX (k + 1) f fd ps (spEr C ps.length l) := by
  have hfd := Sk.fd
  obtain ⟨oc, od, dV, kV, doc, pm, an, ct, osl, rfl, lk⟩ := hfd
  refine ⟨fun vs H Q E h => by obtain ⟨a, ws, _, h2, _⟩ := h; exact h2, fun A outer s H args us vs Q E hr e0 hbind r hsp => ?_⟩
  obtain ⟨a, ws, rfl, hlv, ea, hw, kQ⟩ := hsp
  have kin : K.In s.heap := e0.mod.kin.keeps fun b o z => (e0.bs b o z).1
  have lim : s.heap.NoLimit := e0.mod.nolimit.keeps fun b o z => (e0.bs b o z).1
  obtain ⟨cl, cld, csl, hcell⟩ := Sk.cell
  have hN0 : N[0]? = some sf := by
    have q := congrArg (fun z : List Str => z[0]?) S.pre
    replace q : (N.take (ps.length + [("__class__" : Str)].length))[0]? = (ps ++ [("__class__" : Str)])[0]? := q
    rw [List.getElem?_take_of_lt (by have := (List.getElem?_eq_some_iff.mp hp0).1; omega), List.getElem?_append_left (List.getElem?_eq_some_iff.mp hp0).1, hp0] at q
    exact q
  have hsl : F.scope.names.lookup sf = some .local := S.par _ (List.mem_of_getElem? hp0)
  refine ks_codeAny_call_defAt (fd := PySem.W.fnX F.name F.qual F.params F.body F.scope F.cl dV kV doc pm an (.ref F.c) ct) (body := F.body) (binds := ps.zip us) hr.depth (kin _ _ lk) rfl lim (PySem.W.codeRec_of kin Sk.code) rfl hbind S.nocell (fun x hx => S.par x.1 (List.of_mem_zip hx).1) (fun h₁ hns kp => ?_) S.co S.gen S.kind
  have C0 : CellsAt F.cl ["__class__"] [none] s.heap H := by
    have bc := e0.bs _ _ (e0.mod.kin _ _ hcell)
    have lu : ∀ {y : Str} {c : Addr}, F.cl.lookup y = some c → y = "__class__" ∧ c = cc := fun {y c} z => by
      rw [Sk.cl] at z
      simp only [List.lookup] at z
      split at z
      · rename_i q
        exact ⟨by simpa using q, (Option.some.inj z).symm⟩
      · cases z
    refine ⟨rfl, fun y c z => ?_, fun x y c z1 z2 => ((lu z1).1).trans (lu z2).1.symm, fun i y z => ?_⟩
    · obtain ⟨rfl, rfl⟩ := lu z
      exact ⟨bc.2, _, _, bc.1, rfl⟩
    · cases i with
      | succ i => simp at z
      | zero =>
        have z : some ("__class__" : Str) = some y := z
        cases z
        refine ⟨cc, by rw [Sk.cl]; rfl, fun v q => ?_⟩
        have q : some (none : Option V) = some (some v) := q
        cases q
  have hl1 : (V.ref a :: ws).length = ps.length := hlv
  have I : Inv (ncx CX P w K mg base N F f A outer s H E) [] (startF N (.ref a :: ws) [none]) H { s with heap := h₁, toks := s.toks + (ps.zip us).length } := inv_startN S hr.hd e0 hl1 r C0 hns kp
  have h0 : (startF N (.ref a :: ws) [none])[0]? = some (some (.ref a)) := rfl
  have hσ : ∀ (i : Nat) (v : V), ws[i]? = some v → (startF N (.ref a :: ws) [none])[i + 1]? = some (some v) := fun i v z => by
    unfold startF
    rw [List.getElem?_append_left (by rw [List.length_map, List.length_cons]; have := (List.getElem?_eq_some_iff.mp z).1; omega), List.getElem?_map, List.getElem?_cons_succ, z]
    rfl
  have hlw : ws.length + 1 = ps.length := hlv
  have tx := htx A outer s H E (startF N (.ref a :: ws) [none]) fun i hi => by
    have hi2 : i < ws.length := by omega
    obtain ⟨n, e1, e2⟩ := hw ws[i] (List.getElem_mem hi2)
    exact ⟨n, hσ i _ (by rw [List.getElem?_eq_getElem hi2, e1]), e2⟩
  obtain ⟨te, t1, t2⟩ := tx
  obtain ⟨t, f1, f2⟩ := flds_ok (X := ncx CX P w K mg base N F f A outer s H E) (D := { nx := fun _ H' => Q .non H', rt := Q }) ea h0 hσ (hfl A outer s H E)
  have hq := f2 H [] (fun p hp => by have := hli p hp; omega) (by simp; omega) (.inl ⟨rfl, rfl⟩) kQ
  show _root_.PySem.wpAt (model P w) (A.deeper (envF F f s.heap.objs.size)) (.func F.body (envF F f s.heap.objs.size)) (execs F.body (envF F f s.heap.objs.size)) _ _ _
  have hx : execs F.body (envF F f s.heap.objs.size) = execs (.Expr (.Call (.Attribute (.Call (.Name "super" p0) [] [] p1) "__init__" p2) [e] [] p3) p4 :: rest) (envF F f s.heap.objs.size) := by rw [hbody]
  rw [hx]
  refine ks_wpAt_execs_cons ?_
  refine ks_wpAt_mono (sup_stmt (k := ?_) (Q := fun fl s2 => fl = .next ∧ Inv (ncx CX P w K mg base N F f A outer s H E) [] (startF N (.ref a :: ws) [none]) H s2) W T Sk S hks hN0 hsl I ea h0 hH hB t1 (t2 _ fun y => ⟨rfl, rfl⟩) (hst _) (hsw _) (hmc _)) (fun fl s2 hs => ?_) fun e s2 z => z
  · exact fun s2 J => ⟨rfl, J⟩
  obtain ⟨rfl, J⟩ := hs
  refine _root_.PySem.wpAt_of_wpAny ?_
  refine wpAny_mono (f1.run [] s2 _ H _ J hq) (fun fl s' hs => ?_) fun e s' hs => hs
  have fin : ∀ {σ' : L2.St} {H' : Hp} {v : V} {u : Value}, Inv (ncx CX P w K mg base N F f A outer s H E) [] σ' H' s' → L2.RelV v u → Q v H' → CE outer P w H s Q u s' :=
    fun {σ' H' v u} J rv q => ⟨v, H', J.os, J.bare, J.base, J.hok, rv, q⟩
  cases fl with
  | ret u =>
    obtain ⟨v, σ', H', J, rv, q⟩ := hs
    exact fin J rv q
  | next =>
    obtain ⟨σ', H', J, q⟩ := hs
    exact fin (v := V.non) (u := Value.none) J rfl q
  | brk =>
    obtain ⟨_, _, _, q⟩ := hs
    exact False.elim q
  | cont =>
    obtain ⟨_, _, _, q⟩ := hs
    exact False.elim q
end
end DL
set_option Elab.async false
set_option linter.all false
set_option maxRecDepth 100000
set_option maxHeartbeats 2000000

namespace DL
open PySem PySem.Spec PyProof.Rows L2 NdefX
/-- the numbers that may be told in an error's text -/
def smI : List R → Option (List Int)
  | [] => some []
  | .dat (.int i) :: r => if i.natAbs < 2 ^ 64 then match smI r with
    | some is => some (i :: is)
    | none => none else none
  | _ => none
def erNs (l : List (Str × Nat)) : List Str := (l.map (·.1)).reverse
def erXs (l : List (Str × Nat)) (is : List Int) : List D := (l.map fun p => (is.map D.int).getD p.2 .non).reverse
@[simp] def mkEr (c n : Nat) (l : List (Str × Nat)) (rs : List R) : Option D := if rs.length = n then match smI rs with
    | some is => some (.exc c (erNs l) (erXs l is))
    | none => none
  else none
/-- an own error class: what the text says of it -/
structure ErK (P : Program) (w : World) (K : PySem.W.Frag) (mg : Str → Option Value) (base : Heap) (cl : Nat → Addr) (k c : Nat) (x : Str) (n : Nat) (l : List (Str × Nat)) : Prop where
  ok : ∃ (B newId initId : String) (bm : List Value) (fI : Addr) (fd : FuncData) (ps : List Str), EB B newId initId bm ∧ ErC K newId bm (cl c) ∧ PySem.W.findIn K (.ref (cl c)) "__init__" = some (some (.ref fI)) ∧ PySem.W.typeIn K (.ref fI) = some (.type "function") ∧
    FnOk P w K mg base CX0 k fI fd ps (spEr (cl c) (n + 1) l) ∧ mg x = some (.ref (cl c)) ∧ Binds K fd ps [] ∧ ps.length = n + 1
  il : ∀ p ∈ l, p.2 < n
  sm : n ≤ 100
section
variable {K : PySem.W.Frag} {cl : Nat → Addr} {F : Hp} {α : List Addr}
theorem smI_ok : ∀ {rs : List R} {is : List Int} {vs : List V}, smI rs = some is → ArgRs K cl F α vs rs → vs = is.map V.int ∧ (∀ i ∈ is, i.natAbs < 2 ^ 64)
  | [], _, _, h, q => by
    cases h
    cases q
    exact ⟨rfl, by simp⟩
  | .dat (.int i) :: r, is, _, h, q => by
    unfold smI at h
    split at h
    · rename_i hi
      split at h
      · rename_i js e
        cases h
        cases q with
        | cons q1 q2 =>
          obtain ⟨e1, e2⟩ := smI_ok e q2
          have q1 : Rep K cl F _ (.int i) := q1
          rw [rep_int q1, e1]
          exact ⟨rfl, fun j hj => by
            rcases List.mem_cons.mp hj with rfl | hj
            · exact hi
            · exact e2 j hj⟩
      · cases h
    · cases h
  | .no :: _, _, _, h, _ => by cases h
  | .cel _ :: _, _, _, h, _ => by cases h
  | .fr _ :: _, _, _, h, _ => by cases h
  | .fc _ :: _, _, _, h, _ => by cases h
  | .dat .non :: _, _, _, h, _ => by cases h
  | .dat (.bl _) :: _, _, _, h, _ => by cases h
  | .dat (.str _) :: _, _, _, h, _ => by cases h
  | .dat (.tup _) :: _, _, _, h, _ => by cases h
  | .dat (.lst _) :: _, _, _, h, _ => by cases h
  | .dat (.scr _) :: _, _, _, h, _ => by cases h
  | .dat (.ins _ _) :: _, _, _, h, _ => by cases h
  | .dat (.exc _ _ _) :: _, _, _, h, _ => by cases h
  | .dat (.dk _ _) :: _, _, _, h, _ => by cases h
  | .dat (.dt _ _) :: _, _, _, h, _ => by cases h
theorem putW_rev (ws : List V) : ∀ (l : List (Str × Nat)) (fs : List (Str × V)), putW ws l fs = (l.map fun p => (p.1, ws.getD p.2 .non)).reverse ++ fs
  | [], fs => rfl
  | p :: l, fs => by
    show putW ws l ((p.1, ws.getD p.2 .non) :: fs) = _
    rw [putW_rev ws l, List.map_cons, List.reverse_cons, List.append_assoc]
    rfl
theorem zip_map2 {α β γ : Type} (f : α → β) (g : α → γ) : ∀ l : List α, (l.map f).zip (l.map g) = l.map fun x => (f x, g x)
  | [] => rfl
  | x :: l => by rw [List.map_cons, List.map_cons, List.map_cons, List.zip_cons_cons, zip_map2 f g l]
def erVs (l : List (Str × Nat)) (is : List Int) : List V := (l.map fun p => (is.map V.int).getD p.2 .non).reverse
theorem putW_zip (l : List (Str × Nat)) (is : List Int) : putW (is.map V.int) l [] = (erNs l).zip (erVs l is) := by
  unfold erNs erVs
  rw [putW_rev, List.append_nil, ← List.map_reverse, ← List.map_reverse, ← List.map_reverse, zip_map2]
theorem er_reps {is : List Int} : ∀ {l : List (Str × Nat)}, (∀ p ∈ l, p.2 < is.length) → Reps K cl F (erVs l is) (erXs l is) := fun {l} h => by
  unfold erVs erXs
  rw [← List.map_reverse, ← List.map_reverse]
  have h : ∀ p ∈ l.reverse, p.2 < is.length := fun p hp => h p (List.mem_reverse.mp hp)
  generalize l.reverse = l at *
  induction l with
  | nil => exact .nil
  | cons p l ih =>
    have hp := h p List.mem_cons_self
    refine .cons ?_ (ih fun q hq => h q (List.mem_cons_of_mem _ hq))
    show Rep K cl F ((is.map V.int).getD p.2 .non) ((is.map D.int).getD p.2 .non)
    rw [List.getD_eq_getElem?_getD, List.getD_eq_getElem?_getD, List.getElem?_map, List.getElem?_map, List.getElem?_eq_getElem hp]
    exact .int _
theorem er_len (l : List (Str × Nat)) (is : List Int) : (erNs l).length = (erXs l is).length := by simp [erNs, erXs]
end
section
variable {X : Cx} {pins : List (Addr × Obj)} {σ : L2.St} {H1 : Hp} {s1 : Shared} {cl : Nat → Addr} {k c n : Nat} {x : Str} {l : List (Str × Nat)} {is : List Int} {us : List Value} {vs : List V}
/-- behind the making: the new error, what is kept -/
def ErEnd (X : Cx) (H1 : Hp) (s1 : Shared) (C : Addr) (fs : List (Str × V)) (u : Value) (s' : Shared) : Prop := ∃ (a : Addr) (hp2 : Heap) (H2 : Hp), u = .ref a ∧ s1.heap.objs.size ≤ a ∧ (∀ b o, s1.heap.get? b = some o → hp2.get? b = some o) ∧ ErSt C a fs (upd H1 a (exo a C none)) H2 ∧
  s'.os = s1.os ∧ AllBare s'.gens ∧ Un (frs X.stack) [] (upd H1 a (exo a C none)) H2 hp2 s'.heap ∧ HOk X.prog X.w H2 s'.heap ∧ (∀ pins σ t, Inv X pins σ H1 s1 → Inv X pins σ (upd H1 a (exo a C none)) ⟨hp2, s1.gens, s1.drawn, t, s1.os⟩)
theorem er_call (S : ErK X.prog X.w X.K X.mg X.base cl k c x n l) (hr : Room (k + 1) X.A) (I1 : Inv X pins σ H1 s1) (r1 : Vals vs us) (e1 : vs = is.map V.int) (hi : ∀ i ∈ is, i.natAbs < 2 ^ 64) (hl : is.length = n) :
    wpAny (model X.prog X.w) X.A (call (.ref (cl c)) us) (ErEnd X H1 s1 (cl c) (putW (is.map V.int) l [])) X.xe s1 := by
  obtain ⟨B, newId, initId, bm, fI, fd, ps, W, T, iC, tI, F1, hm, hb, hn⟩ := S.ok
  obtain ⟨nm, q, N, bs, sn, sub, ab, col, dd, k0, k1, k2, k3, k5, hC⟩ := T.cls
  subst e1
  obtain ⟨hp, g, dr, tk, os⟩ := s1
  have hsz : hp.objs.size ≤ hp.objs.size + 1 := Nat.le_succ _
  have hn1 : H1 (hp.objs.size + 1) = none := I1.hok.fresh hsz
  have kk : ∀ b o, hp.get? b = some o → ((hp.push (PySem.W.kdv_tup us)).push (PySem.HandSPX.excO (cl c) hp.objs.size)).get? b = some o := fun b o e => Heap.get?_push_of_some _ (Heap.get?_push_of_some _ e)
  have hget : ((hp.push (PySem.W.kdv_tup us)).push (PySem.HandSPX.excO (cl c) hp.objs.size)).get? (hp.objs.size + 1) = some (PySem.HandSPX.excO (cl c) hp.objs.size) := by heap_get
  have lay : ∀ pins σ t, Inv X pins σ H1 ⟨hp, g, dr, tk, os⟩ → Inv X pins σ (upd H1 (hp.objs.size + 1) (exo (hp.objs.size + 1) (cl c) none)) ⟨(hp.push (PySem.W.kdv_tup us)).push (PySem.HandSPX.excO (cl c) hp.objs.size), g, dr, t, os⟩ := fun pins σ t I =>
    I.laid (t' := t) (a := hp.objs.size + 1) (o := exo (hp.objs.size + 1) (cl c) none) (h' := (hp.push (PySem.W.kdv_tup us)).push (PySem.HandSPX.excO (cl c) hp.objs.size)) kk hsz (exo_ok hget)
  have I2 := lay pins σ tk I1
  have r2 : Vals (V.ref (hp.objs.size + 1) :: is.map V.int) (Value.ref (hp.objs.size + 1) :: us) := .cons rfl r1
  have hl2 : (Value.ref (hp.objs.size + 1) :: us).length = ps.length := by
    have e := r2.length
    rw [← e, List.length_cons, List.length_map, hl, hn]
  have hus : us.length ≤ sizeLine := by
    have e := r2.length
    rw [List.length_cons, List.length_map, List.length_cons] at e
    have := S.sm
    rw [sizeLine_eq]
    omega
  refine wpAny_call (PySem.HandSPX.call_own W.fb (fun _ => rfl) (I1.kIn _ _ hC) (PySem.W.looks_findIn I1.kIn iC) (fun self => PySem.W.bind_fn I1.kIn self tI) hus
    (codeAny_mono (F1.run _ X.stack _ _ ⟨Value.ref (hp.objs.size + 1) :: us, []⟩ (Value.ref (hp.objs.size + 1) :: us) _ (fun v H2 => v = .non ∧ ErSt (cl c) (hp.objs.size + 1) (putW (is.map V.int) l []) (upd H1 (hp.objs.size + 1) (exo (hp.objs.size + 1) (cl c) none)) H2) E0 (hr.make (cl c) us []) (I2.env0.make (cl c) us []) (by
      have z := hb ⟨(hp.push (PySem.W.kdv_tup us)).push (PySem.HandSPX.excO (cl c) hp.objs.size), g, dr, tk, os⟩ (Value.ref (hp.objs.size + 1) :: us) I2.kIn (by rw [List.append_nil]; exact hl2)
      rw [List.append_nil] at z
      exact z) r2 ⟨_, _, rfl, by rw [List.length_cons, List.length_map, hl], upd_same, fun v hv => by
      obtain ⟨i, h1, rfl⟩ := List.mem_map.mp hv
      exact ⟨i, rfl, hi i h1⟩, fun H2 z => ⟨rfl, z⟩⟩) fun r s' hq' => ?_))
  cases r with
  | error er => exact pass0 pins σ _ _ er s' I2 hq'
  | ok fl =>
    cases fl with
    | ret u =>
      obtain ⟨v, H2, os2, bare2, un2, hok2, rv, ev, q2⟩ := hq'
      subst ev
      exact ⟨rv, hp.objs.size + 1, _, H2, rfl, hsz, kk, q2, os2, bare2, un2, hok2, lay⟩
    | next => exact False.elim hq'
    | brk => exact False.elim hq'
    | cont => exact False.elim hq'
/-- as mk_end0, for an error without fields -/
theorem mk_endN {H2 : Hp} {hp hp2 h2 : Heap} {g1 g2 : Array GenState} {d1 d2 : Drawn} {t1 t2 : Nat} {os1 os2 : OsState} {a C : Addr} (I1 : Inv X pins σ H1 ⟨hp, g1, d1, t1, os1⟩)
    (ha : hp.objs.size ≤ a) (k : ∀ b o, hp.get? b = some o → hp2.get? b = some o) (un : Un (frs X.stack) [] (upd H1 a (exo a C none)) H2 hp2 h2) (hok : HOk X.prog X.w H2 h2) (ho : os2 = os1) (hb : AllBare g2) (ea : H2 = upd H1 a (exo a C none)) :
    ∃ (t0 : Addr) (G : Heap), Inv X pins σ H1 ⟨G, g2, d2, t2, os2⟩ ∧ (∀ b o, G.get? b = some o → h2.get? b = some o) ∧ G.get? a = none ∧
      h2.get? a = some ({ cls := .ref C, dict := none, data := .fields #[.ref t0, .none, .none, .none, .bool false, .none] } : Obj) ∧ H1 a = none := by
  subst ea
  obtain ⟨t0, hoe⟩ := exo_at hok upd_same
  have hn : H1 a = none := I1.hok.fresh ha
  obtain ⟨G, g1', g2'⟩ := restrict h2 fun b => decide (b ≠ a)
  have gk : ∀ b, b ≠ a → G.get? b = h2.get? b := fun b hb => g1' b (decide_eq_true hb)
  have ge : G.get? a = none := g2' a (by simp)
  have nha : ∀ {b : Addr} {o : Obj}, hp.get? b = some o → b ≠ a := fun {b o} z => Nat.ne_of_lt (Nat.lt_of_lt_of_le (Heap.lt_size z) ha)
  have up : ∀ {b : Addr}, b ≠ a → H1 b = none → upd H1 a (exo a C none) b = none := fun {b} hb n => by rw [upd_ne hb]; exact n
  have U : Un (frs X.stack) [] H1 H1 hp G := {
    keep := fun b o z n hf hx => by
      rw [gk b (nha z)]
      exact un.keep b o (k b o z) (up (nha z) n) hf hx
    slot := fun b o z n hf hx => by
      rw [gk b (nha z)]
      exact un.slot b o (k b o z) (up (nha z) n) hf hx
    free := fun b o z n hx => n
    there := fun b o z hx => by
      rw [gk b (nha z)]
      exact un.there b o (k b o z) hx
    tups := fun b xs z => z
    frzs := fun b o v z => z
    tbls := fun b ps z => ⟨#[], by rw [z]; simp⟩ }
  have hok3 : HOk X.prog X.w H1 G := fun b o z => by
    have hba : b ≠ a := fun e => by
      rw [e, hn] at z
      cases z
    have z2 : upd H1 a (exo a C none) b = some o := by rw [upd_ne hba]; exact z
    have noa : ∀ {c x : Addr}, upd H1 a (exo a C none) c = some (.own x) → c ≠ a := fun {c x} hc e => by
      rw [e, upd_same] at hc
      exact exo_own (Option.some.inj hc)
    exact (hok b o z2).stay (fun c v hc y => by
        have hca : c ≠ a := by
          rcases hc with hc | hc
          · rw [hc]
            exact hba
          · exact noa hc
        rw [gk c hca]
        exact y)
      (fun c hc => by rw [upd_ne (noa hc)] at hc; exact hc) (fun c xs hc => by
        by_cases hca : c = a
        · rw [hca, upd_same] at hc
          exact absurd (Option.some.inj hc) exo_tup
        · rw [upd_ne hca] at hc
          exact hc)
  have J : Inv X pins σ H1 ⟨G, g2, d2, t2, os2⟩ := I1.call' (ch := []) ho U hok3 hb (fun b z => absurd z (by simp))
  refine ⟨t0, G, J, fun b o z => ?_, ge, hoe, hn⟩
  by_cases hba : b = a
  · rw [hba, ge] at z
    cases z
  · exact (gk b hba).symm.trans z
/-- to be raised -/
theorem er_mk {u : Value} {s' : Shared} {Q : XK} {fs : List (Str × V)} {C : Addr} (T : Raises X (.ref C)) (I1 : Inv X pins σ H1 s1) (h : ErEnd X H1 s1 C fs u s') (q0 : fs = [] → Q (.ref C) none H1) (q1 : ∀ d, H1 d = none → Q (.ref C) (some d) (upd H1 d (.xd fs))) : MkP X pins σ Q u s' := by
  obtain ⟨a, hp2, H2, rfl, ha, k, st, os2, bare, un, hok, _⟩ := h
  obtain ⟨hp, g1, d1, t1, os1⟩ := s1
  obtain ⟨h2, g2, d2, t2, os2'⟩ := s'
  have hn : H1 a = none := I1.hok.fresh ha
  rcases st with ⟨rfl, e2⟩ | ⟨d, nd, ne, rfl⟩
  · obtain ⟨t0, G, J, kG, ge, hoe, na⟩ := mk_endN (d2 := d2) (t2 := t2) I1 ha k un hok os2 bare e2
    exact ⟨a, _, _, ⟨G, g2, d2, t2, os2'⟩, _, .ref C, none, rfl, J, kG, ge, hoe, ⟨rfl, rfl⟩, rfl, rfl, na, rfl, bare, T, q0 rfl⟩
  · have nd1 : H1 d = none := by rw [upd_ne ne] at nd; exact nd
    have ea : (upd (upd (upd H1 a (exo a C none)) d (exd d fs)) a (exo a C (some d))) a = some (exo a C (some d)) := upd_same
    have ed : (upd (upd (upd H1 a (exo a C none)) d (exd d fs)) a (exo a C (some d))) d = some (exd d fs) := by rw [upd_ne ne, upd_same]
    refine mk_end T I1 ha k un hok os2 bare ea ed nd1 ?_
    have e : upd (del (upd (upd (upd H1 a (exo a C none)) d (exd d fs)) a (exo a C (some d))) a) d (.xd fs) = upd H1 d (.xd fs) := by
      funext b
      by_cases hb : b = d
      · rw [hb, upd_same, upd_same]
      · rw [upd_ne hb, upd_ne hb]
        by_cases ha2 : b = a
        · rw [ha2, del_same, hn]
        · rw [del_ne ha2, upd_ne ha2, upd_ne hb, upd_ne ha2]
    rw [e]
    exact q1 d nd1
end
end DL
set_option Elab.async false
set_option linter.all false
set_option maxRecDepth 100000
set_option maxHeartbeats 2000000

namespace DL
open PySem PySem.Spec PyProof.Rows L2 NdefX
section
variable {X : Cx} {CX : CXT} {k n : Nat} {f C : Addr} {fd : FuncData} {ps : List Str} {sp : Sp} {E : L2.St → XK} {x y : Str} {p pos apos : Pos} {o e : Expr} {es : List Expr} {to : TE} {t tk : TA} {ks : List Str} {kws : List Keyword} {g : List Value → List Value → List Value} {gV : List V → List V → List V}
def tCallND (np nk : Nat) (sp : Sp) (gV : List V → List V → List V) (E : L2.St → XK) (t tk : TA) : TE := fun σ H Q => t σ H fun ws H2 => tk σ H2 fun zs H3 => ws.length = np ∧ zs.length = nk ∧ sp (gV ws zs) H3 Q (E σ)
theorem run_fnND {pins : List (Addr × Obj)} {σ : L2.St} {H : Hp} {s : Shared} {Q : VK} {us ws : List Value} {vs zs : List V} (F : FnOk X.prog X.w X.K X.mg X.base CX k f fd ps sp) (hr : Room k X.A) (hb : KBn X.K fd ps n ks g gV) (hx : PassesAt CX X σ (E σ))
    (I : Inv X pins σ H s) (r : Vals vs us) (rz : Vals zs ws) (l1 : vs.length = n) (l2 : zs.length = ks.length) (h : sp (gV vs zs) H Q (E σ)) : wpAny (model X.prog X.w) X.A (call (.ref f) us (ks.zip ws)) (EP X pins σ Q) X.xe s := by
  have r2 := hb.rel r rz
  refine wpAny_call (codeAny_mono (F.run X.A X.stack s H ⟨us, ks.zip ws⟩ (g us ws) (gV vs zs) Q (E σ) hr I.env0 (hb.to s us ws I.kIn (r.length.symm.trans l1) (rz.length.symm.trans l2)) r2 h) fun r s' hq => ?_)
  cases r with
  | error e => exact hx pins H s e s' I hq
  | ok fl =>
    cases fl with
    | ret u => exact I.after hq
    | next => exact False.elim hq
    | brk => exact False.elim hq
    | cont => exact False.elim hq
/-- o.y(e, .., k = v, ..) -/
def tMethKD (C : Addr) (np nk : Nat) (sp : Sp) (gV : List V → List V → List V) (E : L2.St → XK) (to : TE) (t tk : TA) : TE := fun σ H Q => to σ H fun z H1 => ∃ a dx vs, z = .ref a ∧ SlX.Slt H1 a C dx vs ∧ t σ H1 fun ws H2 => tk σ H2 fun zs H3 => (z :: ws).length = np ∧ zs.length = nk ∧ sp (gV (z :: ws) zs) H3 Q (E σ)
end

/-- an error in the air -/
def ExR (K : PySem.W.Frag) (cl : Nat → Addr) (F : Hp) (cls : Value) (d : Option Addr) : D → Prop
  | .exc c ns xs => cls = .ref (cl c) ∧ ((d = none ∧ ns = [] ∧ xs = []) ∨ ∃ (dd : Addr) (vs : List V), d = some dd ∧ F dd = some (.xd (ns.zip vs)) ∧ ns.length = xs.length ∧ Reps K cl F vs xs)
  | _ => False
theorem ExR.mono {K : PySem.W.Frag} {cl : Nat → Addr} {F F' : Hp} {cls : Value} {d : Option Addr} {e : D} (sm : Same F F') (h : ExR K cl F cls d e) : ExR K cl F' cls d e := by
  cases e with
  | exc c ns xs =>
    obtain ⟨h1, h2 | ⟨dd, vs, h3, h4, h5, h6⟩⟩ := h
    · exact ⟨h1, .inl h2⟩
    · exact ⟨h1, .inr ⟨dd, vs, h3, sm _ _ h4, h5, h6.mono sm⟩⟩
  | _ => exact h
abbrev MFX := List R → Mu → Option ((R × Mu) ⊕ (D × Mu))
abbrev MEX := Sl → Mu → Option ((R × Mu) ⊕ (D × Mu))
abbrev MSX := Sl → Mu → Option (Flo ⊕ (D × Sl × Mu))
def EndE (K : PySem.W.Frag) (cl : Nat → Addr) (F : Hp) (α : List Addr) (H : Hp) (Q : VK) (E : XK) : (R × Mu) ⊕ (D × Mu) → Prop
  | .inl (r, μ') => ∀ v F' H', Evo F α H F' α H' → Conc K cl F' α μ' H' → RepR K cl H F' α H' v r → Q v H'
  | .inr (e, μ') => ∀ cls d F' H', Evo F α H F' α H' → Conc K cl F' α μ' H' → ExR K cl F' cls d e → E cls d H'
theorem EndE.pre {K : PySem.W.Frag} {cl : Nat → Addr} {F F1 H H1 : Hp} {α : List Addr} {Q : VK} {E : XK} {z : (R × Mu) ⊕ (D × Mu)} (k : EndE K cl F α H Q E z) (e1 : Evo F α H F1 α H1) : EndE K cl F1 α H1 Q E z := by
  cases z with
  | inl q => exact fun v F' H' e2 c2 r2 => k v F' H' (e1.trans e2) c2 (r2.back e1.dom)
  | inr q => exact fun cls d F' H' e2 c2 x2 => k cls d F' H' (e1.trans e2) c2 x2
def spMX (K : PySem.W.Frag) (cl : Nat → Addr) (n : Nat) (m : MFX) : Sp := fun vs H Q E => ∃ F α μ rs z, vs.length = n ∧ Conc K cl F α μ H ∧ ArgRs K cl F α vs rs ∧ m rs μ = some z ∧ EndE K cl F α H Q E z
def tmex (K : PySem.W.Frag) (cl : Nat → Addr) (W : WX) (m : MEX) : TE := fun σ H Q => ∃ F α δ μ z, Conc K cl F α μ H ∧ EnvOk K cl F α σ δ ∧ m δ μ = some z ∧ EndE K cl F α H Q (WE W σ) z
def EndX (K : PySem.W.Frag) (cl : Nat → Addr) (W : WX) (F : Hp) (α : List Addr) (H : Hp) (E : Ends) : Flo ⊕ (D × Sl × Mu) → Prop
  | .inl fl => EndOk K cl F α H E fl
  | .inr (e, δ', μ') => ∀ cls d F' α' σ' H', Evo F α H F' α' H' → Conc K cl F' α' μ' H' → EnvOk K cl F' α' σ' δ' → ExR K cl F' cls d e → W cls d σ' H'
theorem EndX.pre {K : PySem.W.Frag} {cl : Nat → Addr} {W : WX} {F F1 H H1 : Hp} {α α1 : List Addr} {E : Ends} {z : Flo ⊕ (D × Sl × Mu)} (k : EndX K cl W F α H E z) (e1 : Evo F α H F1 α1 H1) : EndX K cl W F1 α1 H1 E z := by
  cases z with
  | inl fl => exact EndOk.pre k e1
  | inr q => exact fun cls d F' α' σ' H' e2 c2 q2 x2 => k cls d F' α' σ' H' (e1.trans e2) c2 q2 x2
def tmx (K : PySem.W.Frag) (cl : Nat → Addr) (W : WX) (m : MSX) : TS := fun E σ H => ∃ F α δ μ z, Conc K cl F α μ H ∧ EnvOk K cl F α σ δ ∧ m δ μ = some z ∧ EndX K cl W F α H E z
abbrev SEX (X : Cx) (cl : Nat → Addr) (W : WX) (e : Expr) (m : MEX) : Prop := PE X e (tmex X.K cl W m)
abbrev SSX (X : Cx) (cl : Nat → Addr) (W : WX) (st : Stmt) (m : MSX) : Prop := PS X st (tmx X.K cl W m)
abbrev SSXs (X : Cx) (cl : Nat → Addr) (W : WX) (sts : List Stmt) (m : MSX) : Prop := PSs X sts (tmx X.K cl W m)
end DL
set_option Elab.async false
set_option linter.all false
set_option maxRecDepth 100000
set_option maxHeartbeats 2000000

namespace DL
open PySem PySem.Spec PyProof.Rows L2 NdefX
section
variable {X : Cx} {cl : Nat → Addr} {W : WX} {k j c n : Nat} {x : Str} {l : List (Str × Nat)} {e a : Expr} {es : List Expr} {ta : TA} {ms mk : MA} {p pos pos' : Pos}
def tErA (cl : Nat → Addr) (c n : Nat) (l : List (Str × Nat)) (ta : TA) : L2.St → Hp → XK → Prop := fun σ H Q => ta σ H fun vs H1 => ∃ is : List Int, vs = is.map V.int ∧ (∀ i ∈ is, i.natAbs < 2 ^ 64) ∧ is.length = n ∧ (putW (is.map V.int) l [] = [] → Q (.ref (cl c)) none H1) ∧ ∀ d, H1 d = none → Q (.ref (cl c)) (some d) (upd H1 d (.xd (putW (is.map V.int) l [])))
theorem erk_raises (S : ErK X.prog X.w X.K X.mg X.base cl k c x n l) : Raises X (.ref (cl c)) := by
  obtain ⟨B, newId, initId, bm, fI, fd, ps, W, T, iC, tI, F1, hm, hb, hn⟩ := S.ok
  exact raises_own T.exC T.tyC
theorem pmk_er (S : ErK X.prog X.w X.K X.mg X.base cl k c x n l) (hr : Room (k + 1) X.A) (ha : PA X (e :: es) ta) (hg : Gl X x) (hdb : (x == ("__debug__" : Str)) = false) (he : starEach (e :: es) X.env = (false, eval e X.env) :: starEach es X.env) (hpl : (backTo pos (starEach es X.env)).any (·.1) = false) :
    PMk X (.Call (.Name x p) (e :: es) [] pos) (tErA cl c n l ta) := by
  intro pins s σ H Q I h
  have R := erk_raises S
  obtain ⟨B, newId, initId, bm, fI, fd, ps, W, T, iC, tI, F1, hm, hb, hn⟩ := S.ok
  refine wpAny_Call_Name_kw (ld_glob I hg hm ?_ hdb)
  refine PySem.W.callWith_K (h₀ := X.base) I.ok.mod.kin T.kC (thn (ha.run pos pins s σ H _ I h) fun us s1 ⟨vs, H1, I1, r1, is, e1, hi, hl, q0, q1⟩ => ⟨I1.kIn, ?_⟩) he hpl
  show wpAny _ _ (call (.ref (cl c)) us) _ _ _
  exact thn (er_call S hr I1 r1 e1 hi hl) fun u s' z => er_mk R I1 z q0 q1
@[simp] def mRaise (c n : Nat) (l : List (Str × Nat)) (ms : MA) : MSX := fun δ μ => match ms δ μ with
  | none => none
  | some (rs, μ1) => match mkEr c n l rs with
    | some d => some (.inr (d, δ, μ1))
    | none => none
theorem zip_nil {ns : List Str} {vs : List V} (h : ns.zip vs = []) (hl : ns.length = vs.length) : ns = [] := by
  cases ns with
  | nil => rfl
  | cons a ns =>
    cases vs with
    | nil => cases hl
    | cons b vs => cases h
theorem raise_imp (il : ∀ p ∈ l, p.2 < n) : ∀ D σ H, tmx X.K cl W (mRaise c n l ms) D σ H → tErA cl c n l (tma X.K cl ms) σ H fun cls d H' => W cls d σ H' := fun D σ H ⟨F, α, δ, μ, z, C, Ee, hm, k⟩ => by
  unfold mRaise at hm
  split at hm
  · cases hm
  rename_i rs μ1 h1
  split at hm
  rotate_left
  · cases hm
  rename_i d0 h2
  cases hm
  unfold mkEr at h2
  split at h2
  rotate_left
  · cases h2
  rename_i hn
  split at h2
  rotate_left
  · cases h2
  rename_i is h3
  cases h2
  refine ⟨F, α, δ, μ, rs, μ1, C, Ee, h1, fun vs F1 H1 e1 c1 q1 => ?_⟩
  obtain ⟨e2, hi⟩ := smI_ok h3 q1
  subst e2
  have hl : is.length = n := by
    rw [← hn, ← q1.length, List.length_map]
  have ils : ∀ p ∈ l, p.2 < is.length := by rw [hl]; exact il
  have lz : (erNs l).length = (erVs l is).length := by simp [erNs, erVs]
  refine ⟨is, rfl, hi, hl, fun z => ?_, fun d hd => ?_⟩
  · rw [putW_zip] at z
    have en := zip_nil z lz
    have ex : erXs l is = [] := List.eq_nil_of_length_eq_zero (by rw [← er_len, en]; rfl)
    exact k _ _ F1 α σ H1 e1 c1 (Ee.step e1) ⟨rfl, .inl ⟨rfl, en, ex⟩⟩
  · obtain ⟨e3, c3⟩ := c1.new (o := .xd (putW (is.map V.int) l [])) hd
    refine k _ _ _ α σ _ (e1.trans e3) c3 (Ee.step (e1.trans e3)) ⟨rfl, .inr ⟨d, erVs l is, rfl, ?_, er_len l is, er_reps ils⟩⟩
    rw [upd_same, putW_zip]
theorem ss_raise (hc : X.calm = true) (tk : Takes X W) (S : ErK X.prog X.w X.K X.mg X.base cl k c x n l) (hr : Room j X.A) (hk : k + 1 ≤ j) (ha : SA X cl (e :: es) ms) (hg : Gl X x := by rfl) (hdb : (x == ("__debug__" : Str)) = false := by decide) (he : starEach (e :: es) X.env = (false, eval e X.env) :: starEach es X.env := by rfl) (hpl : (backTo pos (starEach es X.env)).any (·.1) = false := by rfl) :
    SSX X cl W (.Raise (some (.Call (.Name x p) (e :: es) [] pos)) none pos') (mRaise c n l ms) :=
  PS.weak (ps_raise hc tk (pmk_er S (hr.mono hk) ha hg hdb he hpl)) (raise_imp S.il)
@[simp] def lft (m : MS) : MSX := fun δ μ => match m δ μ with
  | some fl => some (.inl fl)
  | none => none
@[simp] def mSeqX (m1 m2 : MSX) : MSX := fun δ μ => match m1 δ μ with
  | some (.inl (.nx δ' μ')) => m2 δ' μ'
  | o => o
@[simp] def mIfX (mt : MT) (m1 m2 : MSX) : MSX := fun δ μ => match mt δ μ with
  | some (true, μ1) => m1 δ μ1
  | some (false, μ1) => m2 δ μ1
  | none => none
variable {st : Stmt} {sts xs ys : List Stmt} {m : MS} {m1 m2 : MSX} {mt : MT} {mx : MEX}
theorem lft_imp : ∀ D σ H, tmx X.K cl W (lft m) D σ H → tms X.K cl m D σ H := fun D σ H ⟨F, α, δ, μ, z, C, Ee, hm, k⟩ => by
  unfold lft at hm
  split at hm
  · rename_i fl h1
    cases hm
    exact ⟨F, α, δ, μ, fl, C, Ee, h1, k⟩
  · cases hm
theorem ss_lft (h : SS X cl st m) : SSX X cl W st (lft m) := PS.weak h lft_imp
theorem sss_lft (h : SSs X cl sts m) : SSXs X cl W sts (lft m) := PSs.weak h lft_imp
theorem ssx_one (h : SSX X cl W st m1) : SSXs X cl W [st] m1 := pss_one h
theorem ssx_cons (h1 : SSX X cl W st m1) (h2 : SSXs X cl W sts m2) : SSXs X cl W (st :: sts) (mSeqX m1 m2) := by
  refine PSs.weak (pss_cons h1 h2) fun E σ H ⟨F, α, δ, μ, z, C, Ee, hm, k⟩ => ?_
  unfold mSeqX at hm
  split at hm
  · rename_i δ1 μ1 h1
    exact ⟨F, α, δ, μ, _, C, Ee, h1, fun F1 α1 σ1 H1 e1 c1 q1 => ⟨F1, α1, δ1, μ1, z, c1, q1, hm, EndX.pre k e1⟩⟩
  · rename_i h1
    refine ⟨F, α, δ, μ, z, C, Ee, hm, ?_⟩
    cases z with
    | inr q => exact k
    | inl fl =>
      cases fl with
      | nx δ' μ' => exact absurd hm (h1 δ' μ')
      | bk δ' μ' => exact k
      | ct δ' μ' => exact k
      | rt r μ' => exact k
theorem ssx_if (hc : ST X cl a mt) (ha : SSXs X cl W xs m1) (hb : SSXs X cl W ys m2) : SSX X cl W (.If a xs ys pos) (mIfX mt m1 m2) := by
  refine PS.weak (ps_if hc ha hb) fun E σ H ⟨F, α, δ, μ, z, C, Ee, hm, k⟩ => ?_
  unfold mIfX at hm
  split at hm
  · rename_i μ1 h1
    exact ⟨F, α, δ, μ, _, μ1, C, Ee, h1, fun F1 H1 e1 c1 => iteT ⟨F1, α, δ, μ1, z, c1, Ee.step e1, hm, EndX.pre k e1⟩⟩
  · rename_i μ1 h1
    exact ⟨F, α, δ, μ, _, μ1, C, Ee, h1, fun F1 H1 e1 c1 => iteF ⟨F1, α, δ, μ1, z, c1, Ee.step e1, hm, EndX.pre k e1⟩⟩
  · cases hm

@[simp] def mDropX (m : MEX) : MSX := fun δ μ => match m δ μ with
  | some (.inl (_, μ1)) => some (.inl (.nx δ μ1))
  | some (.inr (e, μ1)) => some (.inr (e, δ, μ1))
  | none => none
@[simp] def mRetX (m : MEX) : MSX := fun δ μ => match m δ μ with
  | some (.inl (r, μ1)) => some (.inl (.rt r μ1))
  | some (.inr (e, μ1)) => some (.inr (e, δ, μ1))
  | none => none
@[simp] def mSetX (i : Nat) (m : MEX) : MSX := fun δ μ => match m δ μ with
  | some (.inl (r, μ1)) => match putR i r δ with
    | some δ' => some (.inl (.nx δ' μ1))
    | none => none
  | some (.inr (e, μ1)) => some (.inr (e, δ, μ1))
  | none => none
theorem ssx_set {i : Nat} {y : Str} {pos2 : Pos} (hN : X.N.Nodup) (h : SEX X cl W e mx) (hi : X.N[i]? = some y := by rfl) (hx : Loc X.env.scope y := by first | exact .inl rfl | exact .inr rfl) (hs : swapsWith e (some (.Name y pos2)) pos.line X.env = pure false := by rfl) (hf : X.fn y = true ∨ X.env.scope.names.lookup y = some .local := by first | exact .inl rfl | exact .inr rfl) :
    SSX X cl W (.Assign [.Name y pos2] e pos) (mSetX i mx) := by
  refine PS.weak (ps_set hN hi hx h hs hf) fun E σ H ⟨F, α, δ, μ, z, C, Ee, hm, k⟩ => ?_
  unfold mSetX at hm
  split at hm
  · rename_i r μ1 h1
    split at hm
    · rename_i δ' h2
      cases hm
      obtain ⟨F2, α2, δ2, μ2, r2, μ3, C2, E2, h3, k2⟩ := set_imp (K := X.K) (m := fun δ' μ' => match mx δ' μ' with
        | some (.inl z) => some z
        | _ => none) E σ H ⟨F, α, δ, μ, .nx δ' μ1, C, Ee, (by unfold mSet; dsimp only; rw [h1]; dsimp only; rw [h2]), k⟩
      have h3' : mx δ2 μ2 = some (.inl (r2, μ3)) := by
        dsimp only at h3
        split at h3
        · rename_i q e
          cases h3
          exact e
        · cases h3
      exact ⟨F2, α2, δ2, μ2, _, C2, E2, h3', k2⟩
    · cases hm
  · rename_i d μ1 h1
    cases hm
    exact ⟨F, α, δ, μ, _, C, Ee, h1, fun cls d F1 H1 e1 c1 q1 => k cls d F1 α σ H1 e1 c1 (Ee.step e1) q1⟩
  · cases hm
end

@[simp] def mDefX (n N : Nat) (body : MSX) : MFX := fun rs μ => if rs.length = n then
    match body (rs ++ List.replicate (N - n) .no) μ with
    | some (.inl (.rt r μ')) => match retR μ.length r μ' with
      | some z => some (.inl z)
      | none => none
    | some (.inl (.nx _ μ')) => match retR μ.length (.dat .non) μ' with
      | some z => some (.inl z)
      | none => none
    | some (.inr (e, _, μ')) => if lowM μ.length μ' = true then some (.inr (e, μ'.take μ.length)) else none
    | _ => none
  else none
section
variable {K : PySem.W.Frag} {cl : Nat → Addr}
theorem def_coreX {N : List Str} {n : Nat} {body : MSX} {vs : List V} {H : Hp} {Q : VK} {E : XK} (h : spMX K cl n (mDefX n N.length body) vs H Q E) : tmx K cl (fun cls d _ H' => E cls d H') body { nx := fun _ H' => Q .non H', rt := Q } (L2.start N vs) H := by
  obtain ⟨F, α, μ, rs, z, hl, C, ha, hm, k⟩ := h
  unfold mDefX at hm
  split at hm
  rotate_left
  · cases hm
  rename_i hrs
  have lift : ∀ fl, body (rs ++ List.replicate (N.length - n) .no) μ = some (.inl fl) → (∃ q, mDef n N.length (fun _ _ => some fl) rs μ = some q ∧ z = .inl q) → tmx K cl (fun cls d _ H' => E cls d H') body { nx := fun _ H' => Q .non H', rt := Q } (L2.start N vs) H := fun fl hb ⟨q, h1, h2⟩ => by
    subst h2
    obtain ⟨r, μ'⟩ := q
    have sp : spM K cl n (mDef n N.length fun δ μ => match body δ μ with
        | some (.inl fl) => some fl
        | _ => none) vs H Q E := ⟨F, α, μ, rs, r, μ', hl, C, ha, by
      unfold mDef at h1 ⊢
      rw [if_pos hrs] at h1 ⊢
      dsimp only
      rw [hb]
      exact h1, k⟩
    obtain ⟨F2, α2, δ2, μ2, fl2, C2, E2, h3, k2⟩ := def_core sp
    refine ⟨F2, α2, δ2, μ2, .inl fl2, C2, E2, ?_, k2⟩
    dsimp only at h3
    split at h3
    · rename_i q e
      cases h3
      exact e
    · cases h3
  split at hm
  · rename_i r μ' hb
    split at hm
    · rename_i q h2
      cases hm
      exact lift _ hb ⟨q, by unfold mDef; rw [if_pos hrs]; exact h2, rfl⟩
    · cases hm
  · rename_i δ' μ' hb
    split at hm
    · rename_i q h2
      cases hm
      exact lift _ hb ⟨q, by unfold mDef; rw [if_pos hrs]; exact h2, rfl⟩
    · cases hm
  · rename_i e δ' μ' hb
    split at hm
    · rename_i hlow
      cases hm
      have en := env_start (N := N) ha
      rw [hrs] at en
      exact ⟨F, α, _, μ, _, C, en, hb, fun cls d F1 α1 σ1 H1 e1 c1 q1 x1 => k cls d F1 H1 e1.cut (c1.cut e1.ext C.len hlow) x1⟩
    · cases hm
  · cases hm
theorem def_okX {P : Program} {w : World} {mg : Str → Option Value} {base : Heap} {x qual : Str} {st : Stmt} {f : Addr} {fd : FuncData} {N ps : List Str} {k n : Nat} {body : MSX} (F : Fun K x qual st f fd) (S : FnScope N ps (defScope st)) (hn : ps.length = n)
    (hb : ∀ (cdv : Value) (A : Around) (outer : List Env) (s : Shared) (H : Hp) (E : XK), Room k (A.deeper (envOfC qual (defScope st) s.heap.objs.size f cdv)) → Takes (cxOf (L2.CX P w) P w K mg base N qual (defScope st) f cdv A outer s H E) (fun cls d _ H' => E cls d H') →
      SSXs (cxOf (L2.CX P w) P w K mg base N qual (defScope st) f cdv A outer s H E) cl (fun cls d _ H' => E cls d H') (defBody st) body) : FnOk P w K mg base (L2.CX P w) (k + 1) f fd ps (spMX K cl n (mDefX n N.length body)) := by
  refine F.okX S (fun vs H Q E h => ?_) (fun cdv A outer s H vs Q E hr h => ⟨_, hb cdv A outer s H E hr (takes_of rfl rfl rfl rfl), def_coreX h⟩)
  obtain ⟨_, _, _, _, _, h, _⟩ := h
  rw [h, hn]
end
end DL
set_option Elab.async false
set_option linter.all false
set_option maxRecDepth 100000
set_option maxHeartbeats 2000000

namespace DL
open PySem PySem.Spec PyProof.Rows L2 NdefX
/-- a call sees no cells -/
@[simp] def callE (f : MFX) : MFX := fun rs μ => match cellsIn rs with
  | [] => match f rs [] with
    | some (.inl (r, [])) => if plainR r = true then some (.inl (r, μ)) else none
    | some (.inr (e, [])) => some (.inr (e, μ))
    | _ => none
  | _ => none
theorem callE_ar {n : Nat} {f : MFX} (ar : ∀ rs μ z, f rs μ = some z → rs.length = n) : ∀ rs μ z, callE f rs μ = some z → rs.length = n := fun rs μ z h => by
  unfold callE at h
  split at h
  · split at h
    · rename_i h1
      exact ar _ _ _ h1
    · rename_i h1
      exact ar _ _ _ h1
    · cases h
  · cases h
section
variable {K : PySem.W.Frag} {cl : Nat → Addr}
theorem callE_sp {n : Nat} {f : MFX} {vs : List V} {H : Hp} {Q : VK} {E : XK} (h : spMX K cl n (callE f) vs H Q E) : spMX K cl n f vs H Q E := by
  obtain ⟨F, α, μ, rs, z, hl, C, ha, hm, k⟩ := h
  unfold callE at hm
  split at hm
  rotate_left
  · cases hm
  rename_i e0
  have wide : ∀ {F' H'}, Evo F [] H F' [] H' → Conc K cl F' [] [] H' → Evo F α H F' α H' ∧ Conc K cl F' α μ H' := fun {F' H'} e c =>
    ⟨⟨e.ff, ⟨[], by simp⟩, fun b o hb _ => e.hh b o hb (by simp), e.dom, e.fre, fun b hb z => absurd hb z, e.frz⟩, ⟨c.sub, C.len, C.nd, fun j b xs q1 q2 => by
      have g := C.cell j b xs q1 q2
      obtain ⟨u, g1⟩ := g.some
      rw [e.hh b _ g1 (by simp), ← g1]
      exact g.monoF e.ff, fun b hb => out_stays C e hb⟩⟩
  have C0 : Conc K cl F [] [] H := ⟨C.sub, rfl, List.nodup_nil, fun _ _ _ h => by simp at h, fun _ h => by simp at h⟩
  split at hm
  · rename_i r h1
    split at hm
    · rename_i hp
      cases hm
      refine ⟨F, [], [], rs, .inl (r, []), hl, C0, args_none ha e0, h1, fun v F' H' e c q => ?_⟩
      obtain ⟨e1, c1⟩ := wide e c
      exact k v F' H' e1 c1 (q.plain hp fun a ha z => by
        obtain ⟨ws, g7⟩ := cell_some C z
        rw [ha] at g7
        cases g7)
    · cases hm
  · rename_i e h1
    cases hm
    refine ⟨F, [], [], rs, .inr (e, []), hl, C0, args_none ha e0, h1, fun cls d F' H' e c q => ?_⟩
    obtain ⟨e1, c1⟩ := wide e c
    exact k cls d F' H' e1 c1 q
  · cases hm
end
/-- a def that may raise, by its name, with some arguments by names -/
structure FKX (P : Program) (w : World) (K : PySem.W.Frag) (mg : Str → Option Value) (base : Heap) (cl : Nat → Addr) (k : Nat) (x : Str) (n : Nat) (m : MFX) (np : Nat) (ks : List Str) (is : List Nat) : Prop where
  ok : ∃ (f : Addr) (fd : FuncData) (ps : List Str), FnOk P w K mg base (L2.CX P w) k f fd ps (spMX K cl n m) ∧ mg x = some (.ref f) ∧ PySem.W.keepIn K (.ref f) = true ∧ KBn K fd ps np ks (fun us ws => pick is (us ++ ws)) (fun us ws => pick is (us ++ ws))
  ar : ∀ rs μ z, m rs μ = some z → rs.length = n
/-- a static method that may raise -/
structure FTX (P : Program) (w : World) (K : PySem.W.Frag) (mg : Str → Option Value) (base : Heap) (cl : Nat → Addr) (k : Nat) (x y : Str) (n : Nat) (m : MFX) (np : Nat) (ks : List Str) (is : List Nat) : Prop where
  ok : ∃ (C g : Addr) (fd : FuncData) (ps : List Str), mg x = some (.ref C) ∧ SMet K C y g ∧ FnOk P w K mg base (L2.CX P w) k g fd ps (spMX K cl n m) ∧ PySem.W.keepIn K (.ref g) = true ∧ KBn K fd ps np ks (fun us ws => pick is (us ++ ws)) (fun us ws => pick is (us ++ ws))
  ar : ∀ rs μ z, m rs μ = some z → rs.length = n
/-- a method that may raise -/
structure FMX (P : Program) (w : World) (K : PySem.W.Frag) (mg : Str → Option Value) (base : Heap) (cl : Nat → Addr) (k c : Nat) (y : Str) (n : Nat) (m : MFX) (np : Nat) (ks : List Str) (is : List Nat) : Prop where
  s : SlX.SCls K (cl c)
  ok : ∃ (g : Addr) (fd : FuncData) (ps : List Str), Meth K (cl c) y g ∧ FnOk P w K mg base (L2.CX P w) k g fd ps (spMX K cl n m) ∧ KBn K fd ps np ks (fun us ws => pick is (us ++ ws)) (fun us ws => pick is (us ++ ws))
  ar : ∀ rs μ z, m rs μ = some z → rs.length = n
section
variable {P : Program} {w : World} {K : PySem.W.Frag} {mg : Str → Option Value} {base : Heap} {cl : Nat → Addr} {k n np c : Nat} {mf : MFX} {ks : List Str} {is : List Nat} {nm y : Str}
theorem FKX.x (S : FKX P w K mg base cl k nm n mf np ks is) : FKX P w K mg base cl k nm n (callE mf) np ks is := by
  obtain ⟨⟨f, fd, ps, F, h⟩, ar⟩ := S
  exact ⟨⟨f, fd, ps, F.imp fun vs H Q E h => callE_sp h, h⟩, callE_ar ar⟩
theorem FTX.x (S : FTX P w K mg base cl k nm y n mf np ks is) : FTX P w K mg base cl k nm y n (callE mf) np ks is := by
  obtain ⟨⟨C, g, fd, ps, h1, h2, F, h⟩, ar⟩ := S
  exact ⟨⟨C, g, fd, ps, h1, h2, F.imp fun vs H Q E h => callE_sp h, h⟩, callE_ar ar⟩
theorem FMX.x (S : FMX P w K mg base cl k c y n mf np ks is) : FMX P w K mg base cl k c y n (callE mf) np ks is := by
  obtain ⟨s, ⟨g, fd, ps, h1, F, h⟩, ar⟩ := S
  exact ⟨s, ⟨g, fd, ps, h1, F.imp fun vs H Q E h => callE_sp h, h⟩, callE_ar ar⟩
end
section
variable {X : Cx} {cl : Nat → Addr} {W : WX} {e o : Expr} {es : List Expr} {mo : ME} {ms mk : MA} {pos p apos : Pos} {k j n np c : Nat} {x y : Str} {mf : MFX} {ks : List Str} {is : List Nat} {kws : List Keyword}
@[simp] def mCallE (f : MFX) (np nk : Nat) (is : List Nat) (ms mk : MA) : MEX := fun δ μ => match ms δ μ with
  | none => none
  | some (rs, μ1) => match mk δ μ1 with
    | none => none
    | some (zs, μ2) => if rs.length = np ∧ zs.length = nk then f (pick is (rs ++ zs)) μ2 else none
@[simp] def mMethE (c : Nat) (f : MFX) (np nk : Nat) (is : List Nat) (mo : ME) (ms mk : MA) : MEX := fun δ μ => match mo δ μ with
  | some (.dat (.ins c' xs), μ0) => if c' = c then match ms δ μ0 with
    | none => none
    | some (rs, μ1) => match mk δ μ1 with
      | none => none
      | some (zs, μ2) => if rs.length + 1 = np ∧ zs.length = nk then f (pick is (.dat (.ins c' xs) :: rs ++ zs)) μ2 else none
    else none
  | _ => none
end
end DL
set_option Elab.async false
set_option linter.all false
set_option maxRecDepth 100000
set_option maxHeartbeats 2000000

namespace DLW
open PySem PySem.W PySem.Spec PySem.Calls PyProof.Rows
section
variable {M : Model} {K : Frag} {cls : Value} {A : Around} {E : Value → Shared → Prop} {hh : Heap} {g : Array GenState} {d : Drawn} {tk : Nat} {os : OsState}
theorem exm_loop1 (X : K.In hh) : ∀ (l : List Value) {Q : PUnit.{1} → Shared → Prop}, (∀ c ∈ l, ∃ v, exmOne K cls c = some v) → Q ⟨⟩ ⟨hh, g, d, tk, os⟩ → wpAny M A (forIn l PUnit.unit fun c __s => do
          let __do_lift ← isExcClass c
          if (!__do_lift) = true then do
              rule "try.except-non-exception-class"
              raiseErrorWords "TypeError" "catching classes that do not inherit from BaseException is not allowed"
              pure (ForInStep.yield PUnit.unit)
            else pure (ForInStep.yield PUnit.unit)) Q E ⟨hh, g, d, tk, os⟩
  | [], Q, _, q => by
    rw [List.forIn_nil]
    exact wpAny_pure q
  | c :: l, Q, h, q => by
    obtain ⟨v, e⟩ := h c List.mem_cons_self
    obtain ⟨e1, _⟩ := exm_cls (M := M) X e
    rw [List.forIn_cons]
    refine wpAny_bind (wpAny_bind (e1.at ?_))
    simp only [Bool.not_true, Bool.false_eq_true, if_false]
    refine wpAny_pure ?_
    exact exm_loop1 X l (fun x hx => h x (List.mem_cons_of_mem _ hx)) q
theorem exm_loop2 (X : K.In hh) : ∀ (l : List Value) {Q : Option Bool × Unit → Shared → Prop}, (∀ c ∈ l, ∃ v, exmOne K cls c = some v) → (∃ c ∈ l, exmOne K cls c = some true) → Q (some true, ()) ⟨hh, g, d, tk, os⟩ → wpAny M A (forIn l ((none : Option Bool), ()) fun c __s => do
            let __do_lift ← isSubtype cls c
            if __do_lift = true then pure (ForInStep.done (some true, ())) else pure (ForInStep.yield (none, ()))) Q E ⟨hh, g, d, tk, os⟩
  | [], Q, _, h2, q => by
    obtain ⟨c, hc, _⟩ := h2
    cases hc
  | c :: l, Q, h, h2, q => by
    obtain ⟨v, e⟩ := h c List.mem_cons_self
    obtain ⟨_, S1⟩ := exm_cls (M := M) X e
    rw [List.forIn_cons]
    refine wpAny_bind (wpAny_bind (S1.at ?_))
    cases v with
    | true =>
      rw [if_pos rfl]
      refine wpAny_pure ?_
      exact wpAny_pure q
    | false =>
      rw [if_neg Bool.false_ne_true]
      refine wpAny_pure ?_
      refine exm_loop2 X l (fun x hx => h x (List.mem_cons_of_mem _ hx)) ?_ q
      obtain ⟨x, hx, ex⟩ := h2
      rcases List.mem_cons.mp hx with rfl | hx
      · rw [e] at ex
        cases ex
      · exact ⟨x, hx, ex⟩
end
theorem exm_list {M : Model} {K : Frag} {cs : List Value} {cls : Value} {tp e : Addr} {h : Heap} (X : K.In h) (LT : Looks M h (typeOf (.ref e)) cls) (hp : h.get? tp = some { cls := .type "tuple", data := .seq cs.toArray }) (ha : ∀ c ∈ cs, ∃ v, exmOne K cls c = some v) (hx : ∃ c ∈ cs, exmOne K cls c = some true) :
    Looks M h (excMatches (.ref e) (.ref tp)) true := by
  intro A Q E s k₀ q
  obtain ⟨hh, g, d, tk, os⟩ := s
  have k : ∀ b o, h.get? b = some o → hh.get? b = some o := k₀
  have LT0 : Looks M h (isInstance (.ref tp) (.type "tuple")) true := ((Looks.ld hp).andThen .now).andThen (Looks.of_pure isSubtype_tuple_tuple)
  have LT := LT.keeps k
  have LT0 := LT0.keeps k
  have hp' := k _ _ hp
  have X' : K.In hh := X.keeps k
  unfold excMatches
  refine wpAny_bind (LT0.at ?_)
  dsimp only
  rw [if_pos rfl]
  first
    | refine wpAny_bind (wpAny_seqItems hp' rfl ?_)
    | refine wpAny_bind (wpAny_bind (wpAny_seqItems hp' rfl (wpAny_pure ?_)))
  dsimp only [Option.getD_some, Option.getD]
  refine wpAny_bind (wpAny_pure ?_)
  refine wpAny_bind (exm_loop1 X' cs ha ?_)
  refine wpAny_bind (LT.at ?_)
  refine wpAny_bind (exm_loop2 X' cs ha hx ?_)
  exact wpAny_pure q
end DLW
set_option Elab.async false
set_option linter.all false
set_option maxRecDepth 100000
set_option maxHeartbeats 2000000

namespace DL
open PySem PySem.Spec PyProof.Rows L2 NdefX
section
variable {X : Cx} {pins : List (Addr × Obj)} {σ : L2.St} {H : Hp} {s : Shared}
/-- an object that stands in the heap, new since the entry, is known from now on -/
theorem inv_track {a : Addr} {o : HO} (I : Inv X pins σ H s) (ha : H a = none) (h0 : X.s_0.heap.get? a = none) (nL : a ≠ X.env.locals) (nc : ∀ x c, X.env.cells.lookup x = some c → c ≠ a) (np : ∀ p ∈ X.pn ++ pins, p.1 ≠ a) (new : ObjOk X.prog X.w (upd H a o) s.heap a o) : Inv X pins σ (upd H a o) s := by
  refine ⟨I.ok, I.os, I.bare, ⟨I.base.keep, I.base.slot, fun b ob e n hx => ?_, I.base.there, fun b xs q => ?_, fun b u xs q => ?_, fun b ps q => ?_⟩, I.loc, I.cell, ?_, fun x c e => ?_, fun p hp => ?_, fun b u e => ?_, I.len⟩
  · rw [upd_ne (fun z => by rw [z, h0] at e; cases e)]
    exact I.base.free b ob e n hx
  · have z := I.base.tups b xs q
    rw [upd_ne (ne_of_none z ha)]
    exact z
  · have z := I.base.frzs b u xs q
    rw [upd_ne (ne_of_none z ha)]
    exact z
  · obtain ⟨m, z⟩ := I.base.tbls b ps q
    exact ⟨m, by rw [upd_ne (ne_of_none z ha)]; exact z⟩
  · rw [upd_ne (Ne.symm nL)]
    exact I.free
  · rw [upd_ne (nc x c e)]
    exact I.freeC x c e
  · obtain ⟨e, n, r⟩ := I.pin p hp
    exact ⟨e, by rw [upd_ne (np p hp)]; exact n, r⟩
  · by_cases hb : b = a
    · subst hb
      rw [upd_same] at e
      cases e
      exact new
    · rw [upd_ne hb] at e
      exact (I.hok b u e).stay (fun c v _ q => q) (fun c q => by rw [upd_ne (ne_of_none q ha)]; exact q) fun c xs q => by rw [upd_ne (ne_of_none q ha)]; exact q
/-- what an except clause names: classes of which the error's is one -/
def TestOk (X : Cx) (cls : Value) (T : Expr) : Prop := ∀ (a : Addr) (oe : Obj) (pn : List (Addr × Obj)) (σ : L2.St) (H : Hp) (s : Shared) (Q : Bool → Shared → Prop) (E : Value → Shared → Prop), Inv (X.suite a pn) [] σ H s → s.heap.get? a = some oe → oe.cls = cls →
  (∀ h', (∀ b o, s.heap.get? b = some o → h'.get? b = some o) → Q true { s with heap := h' }) → wpAny (model X.prog X.w) (X.A.mark (some (.ref a))) (eval T X.env) (fun c s₁ => wpAny (model X.prog X.w) (X.A.mark (some (.ref a))) (excMatches (.ref a) c) Q E s₁) E s
theorem test_nm {cls c : Value} {x : Str} {np : Pos} (hm : X.mg x = some c) (hx : PySem.W.exmOne X.K cls c = some true) (hg : Gl X x := by rfl) (hd : (x == ("__debug__" : Str)) = false := by decide) : TestOk X cls (.Name x np) := fun a oe pn σ H s Q E I ho hc q => by
  refine ld_glob (X := X.suite a pn) I hg hm ?_ hd
  have LT : PySem.W.Looks (model X.prog X.w) s.heap (typeOf (.ref a)) cls := fun A Q E s k q => wpAny_typeOf_ref (k _ _ ho) (by rw [hc]; exact q)
  exact (PySem.W.exm_one (M := model X.prog X.w) I.kIn LT hx).here (q s.heap fun _ _ z => z)
/-- the names of a tuple, the classes -/
inductive Nms (X : Cx) : List Expr → List Value → Prop
  | nil : Nms X [] []
  | cons {x : Str} {np : Pos} {c : Value} {es : List Expr} {cs : List Value} : Gl X x → X.mg x = some c → (x == ("__debug__" : Str)) = false → Nms X es cs → Nms X (.Name x np :: es) (c :: cs)
theorem nms_len {es : List Expr} {cs : List Value} (h : Nms X es cs) : cs.length = es.length := by
  induction h with
  | nil => rfl
  | cons _ _ _ _ ih => simp [ih]
theorem test_tup {cls : Value} {es : List Expr} {cs : List Value} {k : Nat} {pos : Pos} (hn : Nms X es cs) (hl : es.length ≤ 1000) (ha : ∀ c ∈ cs, ∃ v, PySem.W.exmOne X.K cls c = some v) (hx : ∃ c ∈ cs, PySem.W.exmOne X.K cls c = some true) : TestOk X cls (.Tuple es k pos) := fun a oe pn σ H s Q E I ho hc q => by
  refine wpAny_Tuple ?_
  have LT : PySem.W.Looks (model X.prog X.w) s.heap (typeOf (.ref a)) cls := fun A Q E s k q => wpAny_typeOf_ref (k _ _ ho) (by rw [hc]; exact q)
  have kp : ∀ b o, s.heap.get? b = some o → (s.heap.push { cls := .type "tuple", data := .seq cs.toArray }).get? b = some o := fun _ _ z => Heap.get?_push_of_some _ z
  have fin : wpAny (model X.prog X.w) (X.A.mark (some (.ref a))) (excMatches (.ref a) (.ref s.heap.objs.size)) Q E { s with heap := s.heap.push { cls := .type "tuple", data := .seq cs.toArray } } :=
    (DLW.exm_list (M := model X.prog X.w) (I.kIn.keeps kp) (LT.keeps kp) (Heap.get?_push_size s.heap rfl) ha hx).here (q _ kp)
  have sz : cs.length ≤ sizeLine := by
    rw [nms_len hn, sizeLine_eq]
    omega
  clear LT ha hx q kp
  have go : ∀ {es : List Expr} {cs' : List Value}, Nms X es cs' → ∀ {Q2 : List Value → Shared → Prop}, Q2 cs' s → wpAny (model X.prog X.w) (X.A.mark (some (.ref a))) (spliced (backTo pos (starEach es X.env))) Q2 E s := by
    intro es cs' h
    induction h with
    | nil => exact fun q => Calls.spliced_nil q
    | @cons x np c es cs hg hm hd _ ih =>
      intro Q2 q
      show wpAny _ _ (spliced ((false, eval (.Name x np) X.env) :: backTo pos (starEach es X.env))) _ _ s
      refine Calls.spliced_cons ?_
      refine ld_glob (X := X.suite a pn) I hg hm ?_ hd
      exact ih q
  exact go hn ⟨sz, fin⟩
end
/-- what is wished of an error of the body -/
def wKeep (Hd : Value → Prop) (i j : Nat) (D : Ends) : WX := fun cls d σ H => Hd cls ∧ ∃ C, cls = .ref C ∧ ∀ a, H a = none → D.nx (((σ.set i (some (.ref a))).set j (some (.ref a))).set i none) (upd H a (exv a C d))
section
variable {X : Cx} {T : Expr} {n y : Str} {i j : Nat} {body : List Stmt} {pn py pa pos pos' : Pos} {tb : WX → TS} {Hd : Value → Prop}
theorem fz_keeps {B h h' : Heap} {l : List Env} {a : Addr} {Z : Obj → Prop} (f : HandSPX.FlyingZ B l a Z h) (k : ∀ b o, h.get? b = some o → h'.get? b = some o) : HandSPX.FlyingZ B l a Z h' := by
  obtain ⟨f1, f2, f3, oe, vs, T, oT, ts, he, hz, hd, h1, hn, hne, hT, hdT, h3⟩ := f
  exact ⟨fun b o q => k b o (f1 b o q), f2, f3.of_keeps fun b o q _ => ⟨o, k b o q, rfl⟩, oe, vs, T, oT, ts, k _ _ he, hz, hd, h1, hn, hne, k _ _ hT, hdT, h3⟩
theorem ps_try_keep (hs : X.stack = X.env :: X.outer) (hf : X.env.frame = some X.env.locals) (hex : X.ex = []) (hN : X.N.Nodup) (hi : X.N[i]? = some n) (hln : X.env.kindOf n = some .local) (hj : X.N[j]? = some y) (hly : X.env.kindOf y = some .local) (hij : i ≠ j) (hil : i < X.N.length)
    (hnd : (n == ("__debug__" : Str)) = false) (hcd : (n == ("__classdict__" : Str)) = false) (ht : ∀ cls, Hd cls → TestOk X cls T)
    (hb : ∀ (W : WX) (pn : List (Addr × Obj)) (xe : Value → Shared → Prop), Takes (X.tr pn xe) W → PassesOwn (model X.prog X.w) X.A X.env xe → PSs (X.tr pn xe) body (tb W))
    (hsw : swapsWith (.Name n pn) (some (.Name y py)) pa.line X.env = pure false := by rfl) :
    PS X (.Try body [.ExceptHandler (some T) (some n) [.Assign [.Name y py] (.Name n pn) pa] pos'] [] [] pos) (fun D σ H => tb (wKeep Hd i j D) D σ H) := by
  refine ⟨fun pins s σ H D I h => ?_⟩
  have ok := I.ok
  have hfr : X.A.frames = some (X.env :: X.outer) := by rw [ok.frames, hs]
  have hloc : L2.Loc X.env.scope n := .inl hln
  refine wpAny_Try_except ?_
  refine wpAny_mono ((hb (wKeep Hd i j D) (X.pn ++ pins) (fun e s₁ => wpAny (model X.prog X.w) X.A (noteFrame e X.env) (fun _ s₂ => wpAny (model X.prog X.w) X.A (setFlight e none) (fun _ s₃ =>
    wpAny (model X.prog X.w) X.A (handleBy e X.env [.ExceptHandler (some T) (some n) [.Assign [.Name y py] (.Name n pn) pa] pos']) (SP X pins D) X.xe s₃) X.xe s₂) X.xe s₁) (fun u s' xx => ?_) PassesOwn.looking).run [] s σ H D (I.toTry _) h) (fun f s1 hsp => ?_) (fun e s1 he => he)
  · obtain ⟨a, B, sI, pins', σ', H', cls, d, rfl, J', nb, up, sky, na, os, ag, hHd, C, rfl, hk⟩ := xx
    have J : Inv X pins σ' H' sI := J'.ofTry ok
    have sky' : Sky B (X.env :: X.outer) a (Zc (.ref C) d) X.env.locals s'.heap := by rw [← hs]; exact sky
    show wpAny (model X.prog X.w) X.A (noteFrame (.ref a) X.env) _ _ _
    refine Sky.land Zc.steady hfr hf sky' fun h3 fl3 up3 => ?_
    have J3 : Inv X pins σ' H' { s' with heap := h3 } := J.landed nb fl3.1 (up.trans up3) os ag
    obtain ⟨oe3, vs3, he3, hz3, hd3⟩ := fl3.there
    have notFr : ∀ {h : Heap} {o : Obj} {vs : Array Value}, h.FunFrames B (X.env :: X.outer) → h.get? a = some o → o.data = .fields vs → a ∉ frs (X.env :: X.outer) := fun {h o vs} ff e dd hm => by
      obtain ⟨_, o', e', hnf⟩ := ff.mem hm
      rw [e] at e'; cases e'
      exact hnf _ dd
    have nfr := notFr fl3.2.2.1 he3 hd3
    have nL : a ≠ X.env.locals := fun z => nfr (List.mem_filterMap.mpr ⟨X.env, List.mem_cons_self, by rw [hf, z]⟩)
    have nF : a ∉ X.fs := fun hm => by
      obtain ⟨e, he, q⟩ := List.mem_filterMap.mp hm
      exact nfr (List.mem_filterMap.mpr ⟨e, List.mem_cons_of_mem _ he, q⟩)
    have Bn : B.get? a = none := fl3.2.1
    have sIn : sI.heap.get? a = none := by
      cases e : sI.heap.get? a with
      | none => rfl
      | some o =>
        have := nb a o e (by rw [hs]; exact nfr)
        rw [Bn] at this
        cases this
    have s0n : X.s_0.heap.get? a = none := by
      cases e : X.s_0.heap.get? a with
      | none => rfl
      | some o =>
        obtain ⟨o', z⟩ := J.base.there a o e (by rw [hex]; exact fun z => nomatch z)
        rw [sIn] at z
        cases z
    have npn : ∀ p ∈ X.pn ++ pins, p.1 ≠ a := fun p hp z => by
      obtain ⟨e, _⟩ := J.pin p hp
      rw [z, sIn] at e
      cases e
    have S3 := J3.suite he3 hd3 na nL nF
    refine wpAny_handleBy_cons (codeAny_handlers_test ?_) (by intro q; cases q)
    refine ht _ hHd a oe3 _ σ' H' { s' with heap := h3 } _ _ S3 he3 hz3.1 (fun h5 kp => ?_)
    refine codeAny_handlers_suite_as ?_
    have fl5 := fz_keeps fl3 kp
    have up5 : s'.heap.UpToSlots h5 := up3.trans (Heap.UpToSlots.of_keeps kp)
    refine HandSPX.lands_againZ fl5 fun h4 fl4 up4 => ?_
    have J4 : Inv X pins σ' H' { s' with heap := h4 } := J.landed nb fl4.1 ((up.trans up5).trans up4) os ag
    obtain ⟨oe4, vs4, he4, hz4, hd4⟩ := fl4.there
    have S4 := J4.suite he4 hd4 na nL nF
    refine store_ok (X := X.suite a ((a, oe4) :: (X.pn ++ pins))) (v := .ref a) S4 hN hi hloc rfl (fun s5 S5 => ?_) (.inr hln)
    have hσl : σ'.length = X.N.length := J.len
    have hsu : PSs (X.suite a ((a, oe4) :: (X.pn ++ pins))) [.Assign [.Name y py] (.Name n pn) pa] _ := pss_one (ps_set (X := X.suite a ((a, oe4) :: (X.pn ++ pins))) hN hj (.inl hly) (pe_var (X := X.suite a ((a, oe4) :: (X.pn ++ pins))) (pos := pn) hi (.inl hln) hnd hcd) hsw (.inr hly))
    refine wpAny_mono (hsu.run [] s5 _ H' { nx := fun σ6 H6 => σ6 = ((σ'.set i (some (.ref a))).set j (some (.ref a))) ∧ H6 = H', rt := fun _ _ => False } S5 ⟨.ref a, List.getElem?_set_self (by rw [hσl]; exact hil), rfl, rfl⟩) (fun f s6 hsp => ?_) (fun _ _ z => False.elim z)
    cases f with
    | next =>
      obtain ⟨σ6, H6, S6, rfl, rfl⟩ := hsp
      have S7 : Inv X ((a, oe4) :: pins) ((σ'.set i (some (.ref a))).set j (some (.ref a))) H6 s6 := ⟨ok, S6.os, S6.bare, S6.base, S6.loc, S6.cell, S6.free, S6.freeC, fun p hp => S6.pin p (by
        rw [List.append_nil]
        rcases List.mem_append.mp hp with z | z
        · exact List.mem_cons_of_mem _ (List.mem_append_left _ z)
        · rcases List.mem_cons.mp z with z | z
          · rw [z]
            exact List.mem_cons_self
          · exact List.mem_cons_of_mem _ (List.mem_append_right _ z)), S6.hok, S6.len⟩
      refine gone_ok S7 hN hi hln fun s7 J7 => ?_
      have pa7 := (J7.pin (a, oe4) (List.mem_append_right _ List.mem_cons_self)).1
      have J8 : Inv X pins (((σ'.set i (some (.ref a))).set j (some (.ref a))).set i none) H6 s7 := ⟨J7.ok, J7.os, J7.bare, J7.base, J7.loc, J7.cell, J7.free, J7.freeC, fun p hp => J7.pin p (by
        rcases List.mem_append.mp hp with z | z
        · exact List.mem_append_left _ z
        · exact List.mem_append_right _ (List.mem_cons_of_mem _ z)), J7.hok, J7.len⟩
      have J9 := inv_track (o := exv a C d) J8 na s0n nL (fun x c e z => by
        obtain ⟨v, o, ho, hd⟩ := J8.cell x c e
        rw [z, pa7] at ho
        cases ho
        rw [hd4] at hd
        cases hd) npn ⟨⟨oe4, vs4, pa7, hz4.1, hz4.2, hd4⟩, ⟨_, pa7⟩, fun h1 h2 ⟨o, v, q, r⟩ st => ⟨o, v, st _ q, r⟩⟩
      exact ⟨_, _, J9, hk a na⟩
    | brk =>
      obtain ⟨_, _, _, q6⟩ := hsp
      exact False.elim q6
    | cont =>
      obtain ⟨_, _, _, q6⟩ := hsp
      exact False.elim q6
    | ret u =>
      obtain ⟨v6, σ6, H6, S6, r6, q6⟩ := hsp
      exact False.elim q6
  · cases f with
    | next =>
      obtain ⟨σ', H', J', q⟩ := hsp
      exact wpAny_execs_nil ⟨σ', H', J'.ofTry ok, q⟩
    | brk =>
      obtain ⟨σ', H', J', q⟩ := hsp
      exact ⟨σ', H', J'.ofTry ok, q⟩
    | cont =>
      obtain ⟨σ', H', J', q⟩ := hsp
      exact ⟨σ', H', J'.ofTry ok, q⟩
    | ret u =>
      obtain ⟨v, σ', H', J', r, q⟩ := hsp
      exact ⟨v, σ', H', J'.ofTry ok, r, q⟩
end
end DL
set_option Elab.async false
set_option linter.all false
set_option maxRecDepth 100000
set_option maxHeartbeats 2000000

namespace DLW
open PySem PySem.W PySem.Spec PySem.Calls PyProof.Rows
section
variable {prog : Program} {w : World} {A : Around} {E : Value → Shared → Prop} {s : Shared} {K : Frag} {x D : Addr} {ox : Obj} {od : Option Obj}
theorem findObj_dataO {C : Addr} {name : Str} {a g : Value} (hc : (clsIn K C).isSome = true) (ha : findIn K (.ref C) name = some (some a)) (hg : specialIn K a "__get__" = some (some g)) (ht : takesIn K a = some true) : findObj K C od name = some (.bind g a) := by
  obtain ⟨cd, hc⟩ := Option.isSome_iff_exists.mp hc
  unfold findObj
  rw [hc, Option.bind_some, ha, Option.bind_some]
  simp [hg, ht]
theorem kin_classO {Q : Option Value → Shared → Prop} (hga : findIn K (.ref D) "__getattribute__" = some (some (.builtin "BaseException.__getattribute__"))) (hgt : findIn K (.ref D) "__getattr__" = some none) (hsub : subIn K (.ref D) (.type "BaseException") = some true)
    (hdct : hasDictIn K D = true) (ha : findIn K (.ref D) "__class__" = some (some (.builtin "object.__class__")))
    (hn : specialIn K (.builtin "object.__class__") "__get__" = some (some (.builtin "getset_descriptor.__get__"))) (htk : takesIn K (.builtin "object.__class__") = some true) (hm : mroIn K D (.type "object") = some true)
    (X : K.In s.heap) (I : InstAt s.heap x ox D od) (h : Q (some (.ref D)) { s with toks := s.toks + 1 }) : wpAny (model prog w) A (getAttr? (.ref x) "__class__") Q E s := by
  have hf : findObj K D od "__class__" = some (.bind (.builtin "getset_descriptor.__get__") (.builtin "object.__class__")) := findObj_dataO (by obtain ⟨cd, hc, _⟩ := any_some hdct; rw [hc]; rfl) ha hn htk
  obtain ⟨hp, g, d, t, os⟩ := s
  have L0 := I.type (M := model prog w)
  have L1 := looks_findIn (M := model prog w) X hga
  have L2 := looks_findIn (M := model prog w) X hgt
  have L3 := looks_find (M := model prog w) X I hf
  have sub : Looks (model prog w) hp (isInstance (.ref x) (.type "BaseException")) true := L0.andThen (looks_subIn X hsub)
  have hx0 : (false && onTheHeap (Value.builtin "BaseException.__getattribute__")) = false := rfl
  have hx2 : (Value.builtin "BaseException.__getattribute__" == Value.builtin "object.__getattribute__") = false := by decide +kernel
  have hx1 : (onTheHeap (Value.ref D) && Value.builtin "BaseException.__getattribute__" == Value.builtin "object.__getattribute__") = false := by rw [hx2]; rfl
  unfold getAttr? getAttrBy? getAttrBy
  refine wpAny_bind (wpAny_mkText (wpAny_bind (wpAny_attempt (wpAny_holding (wpAny_bind (L0.at (wpAny_bind (L1.at ?_))))))))
  show wpAny _ _ (if (onTheHeap (Value.ref D) && Value.builtin "BaseException.__getattribute__" == Value.builtin "object.__getattribute__") = true then _ else _) _ _ _
  rw [hx1, if_neg Bool.false_ne_true]
  unfold getAttrByItsOwn hookBefore
  refine wpAny_bind ?_
  rw [if_pos (show onTheHeap (Value.ref D) = true from rfl)]
  refine L2.at ?_
  refine wpAny_bind (wpAny_attempt (wpAny_holding ?_))
  unfold callGetattribute
  rw [hx0, if_neg Bool.false_ne_true]
  unfold boundAndCalled
  rw [PySem.F.excAttr_ValueError.ga.bind (.ref x)]
  refine wpAny_bind (wpAny_pure ?_)
  show wpAny _ _ (call (.builtin "BaseException.__getattribute__") [.ref x, .str "__class__" t]) _ _ _
  refine wpAny_call (codeAny_call_builtin PySem.F.excAttr_ValueError.ga.plain PySem.F.entry_bexc_ga ?_)
  refine @check_slot (model prog w) _ _ ⟨hp, g, d, t + 1, os⟩ "BaseException.__getattribute__" "BaseException" "__getattribute__" (.ref x) [.str "__class__" t] [] _ (by decide +kernel) (by decide +kernel) sub (PySem.F.args_bexc_ga (.ref x) (.str "__class__" t)) ?_
  unfold Builtin.«object.__getattribute__»
  refine wpAny_bind (wpAny_of_eq (a := ((Value.ref x : Value), [Value.str "__class__" t])) (by first | rfl | (simp only [slotArgs]; rfl)) ?_)
  refine wpAny_bind (wpAny_pure (wpAny_bind (L0.at (wpAny_bind (L3.at ?_)))))
  show wpAny _ _ (holding [Value.builtin "object.__class__"] (call (.builtin "getset_descriptor.__get__") [.builtin "object.__class__", .ref x, .ref D]) >>= ret) _ _ _
  refine wpAny_bind (wpAny_holding (wpAny_call (class_get (s := ⟨hp, g, d, t + 1, os⟩) (ox := ox) (od := od) X I hm ?_)))
  refine wpAny_pure ?_
  show wpAny _ _ (handedOut (.ref D)) _ _ _
  rw [handedOut_of (v := .ref D) rfl]
  first
    | exact wpAny_pure (wpAny_pure h)
    | exact wpAny_pure h
    | exact wpAny_pure (wpAny_bind (wpAny_pure (wpAny_pure h)))
theorem kitx_excO (hga : findIn K (.ref D) "__getattribute__" = some (some (.builtin "BaseException.__getattribute__"))) (hgt : findIn K (.ref D) "__getattr__" = some none) (hsub : subIn K (.ref D) (.type "BaseException") = some true) (hdct : hasDictIn K D = true) (ha : findIn K (.ref D) "__class__" = some (some (.builtin "object.__class__")))
    (hn : specialIn K (.builtin "object.__class__") "__get__" = some (some (.builtin "getset_descriptor.__get__"))) (htk : takesIn K (.builtin "object.__class__") = some true) (hm : mroIn K D (.type "object") = some true) :
    KitX K (.ref x) (.ref D) (fun h => InstAt h x ox D od) where
  ty := fun _ _ _ I => I.type
  it := fun _ _ X _ => by
    obtain ⟨cdD, hcD, _⟩ := any_some hdct
    unfold clsIn at hcD
    split at hcD
    · rename_i c' d' cd' sl' ho
      intro A' Q' E' s' k q
      unfold isType loadHead
      exact wpAny_bind (wpAny_loadPart (k _ _ (X _ _ ho)) (wpAny_pure q))
    · cases hcD
  ne := fun h tp dd its n sl X htp => by
    obtain ⟨cdD, hcD, _⟩ := any_some hdct
    refine Bool.eq_false_iff.mpr fun q => ?_
    have e : D = tp := Value.ref.inj (beq_iff_eq.mp q)
    subst e
    unfold clsIn at hcD
    split at hcD
    · rename_i c' d' cd' sl' ho
      have z := (X _ _ ho).symm.trans htp
      cases z
    · cases hcD
  ca := fun X I k => kin_classO hga hgt hsub hdct ha hn htk hm X I k
end
end DLW
namespace DL
open PySem PySem.Spec PyProof.Rows L2 NdefX
section
variable {X : Cx} {pins : List (Addr × Obj)} {σ : L2.St} {H : Hp} {s : Shared} {K : PySem.W.Frag} {cl : Nat → Addr}
/-- a caught error as it stands in the heap -/
theorem exv_inst {a C : Addr} {d : Option Addr} {fs : List (Str × V)} (I : Inv X pins σ H s) (ha : H a = some (exv a C d)) (hd : ∀ dd, d = some dd → H dd = some (.xd fs)) : ∃ ox od, PySem.W.InstAt s.heap a ox C od ∧ ∀ dd, d = some dd → ∃ oD mA, od = some oD ∧ s.heap.get? dd = some oD ∧ s.heap.Ns1 dd mA ∧ ∀ f, RelO (fs.lookup f) (mA f) := by
  have z : ObjOk X.prog X.w H s.heap a (exv a C d) := I.hok a _ ha
  obtain ⟨⟨oe, vs, h1, h2, h3, h4⟩, _, _⟩ := z
  have nc : PySem.W.notCls oe = true := by
    unfold PySem.W.notCls
    rw [h4] <;> rfl
  cases d with
  | none => exact ⟨oe, none, ⟨h1, h2, nc, by rw [h3]; trivial⟩, fun dd e => by cases e⟩
  | some dd =>
    have hx : ObjOk X.prog X.w H s.heap dd (.xd fs) := I.hok dd _ (hd dd rfl)
    obtain ⟨mA, hns, hr⟩ := hx
    obtain ⟨oD, es, ep, ho, q⟩ := id hns
    exact ⟨oe, some oD, ⟨h1, h2, nc, by rw [h3]; exact ho⟩, fun d2 e => by cases e; exact ⟨oD, mA, rfl, ho, hns, hr⟩⟩
def rIsX (K : PySem.W.Frag) (u : Value) : List V → Hp → VK → Prop := fun xs H Q => ∃ (a C : Addr) (d : Option Addr) (fs : List (Str × V)) (c : V) (b : Bool), xs = [V.ref a, c] ∧ RelV c u ∧ (∀ w, RelV c w → w = u) ∧ H a = some (exv a C d) ∧ (∀ dd, d = some dd → H dd = some (.xd fs)) ∧ ExcC K C ∧ PySem.W.kitOne K (.ref C) u = some b ∧ Q (.bl b) H
theorem call_isX (u : Value) : CallR X (.builtin "isinstance") (rIsX X.K u) := by
  intro pins s σ H xs us Q I r h
  obtain ⟨a, C, d, fs, c, b, rfl, rc, one, ha, hd, hc, hk, q⟩ := h
  obtain ⟨u1, u2, rfl, r1, r2⟩ := r.two
  cases (show u1 = Value.ref a from r1)
  cases one _ r2
  obtain ⟨ox, od, J, _⟩ := exv_inst I ha hd
  exact PySem.W.kia_one (DLW.kitx_excO hc.hg hc.hk hc.hs hc.hd hc.ha hc.hn hc.ht hc.hm) I.kIn J hk (fun z => nomatch z) fun tk => ⟨.bl b, H, I.tok _, rfl, q⟩
/-- the error's classes, and whether each is one of the class asked for -/
structure IsX (K : PySem.W.Frag) (cl : Nat → Addr) (u : Value) (tb : List (Nat × Bool)) : Prop where
  ok : ∀ p ∈ tb, ExcC K (cl p.1) ∧ PySem.W.kitOne K (.ref (cl p.1)) u = some p.2
@[simp] def lookN (tb : List (Nat × Bool)) (c : Nat) : Option Bool := match tb with
  | [] => none
  | (c', b) :: r => if c' = c then some b else lookN r c
theorem lookN_mem : ∀ {tb : List (Nat × Bool)} {c : Nat} {b : Bool}, lookN tb c = some b → (c, b) ∈ tb
  | [], _, _, h => by cases h
  | (c', b') :: r, c, b, h => by
    unfold lookN at h
    split at h
    · rename_i e
      cases h
      rw [e]
      exact List.mem_cons_self
    · exact List.mem_cons_of_mem _ (lookN_mem h)
@[simp] def mIsX (tb : List (Nat × Bool)) (m : ME) : ME := fun δ μ => match m δ μ with
  | some (.dat (.exc c _ _), μ1) => match lookN tb c with
    | some b => some (.dat (.bl b), μ1)
    | none => none
  | _ => none
theorem exc_rep {F H : Hp} {v : V} {c : Nat} {ns : List Str} {xs : List D} (sm : Same F H) (h : Rep K cl F v (.exc c ns xs)) : ∃ a d fs, v = .ref a ∧ H a = some (exv a (cl c) d) ∧ (∀ dd, d = some dd → H dd = some (.xd fs)) := by
  cases h with
  | exc0 h => exact ⟨_, none, [], rfl, sm _ _ h, fun dd e => by cases e⟩
  | exc h1 h2 h3 h4 => exact ⟨_, _, _, rfl, sm _ _ h1, fun dd e => by cases e; exact sm _ _ h2⟩
variable {a : Expr} {m : ME} {p pos : Pos} {tb : List (Nat × Bool)}
theorem se_isXB {pT : Pos} {nm : Str} {T : String} (hI : IsX X.K cl (.type T) tb) (hmT : X.mg nm = none) (hvT : bootBuiltins nm = some (.type T)) (hm : X.mg "isinstance" = none) (he : SE X cl a m) (hg : Gl X "isinstance" := by rfl) (hgT : Gl X nm := by rfl) (hn : nm ≠ "__name__" := by decide) (hd : (nm == ("__debug__" : Str)) = false := by decide)
    (hs : starEach (a :: [.Name nm pT]) X.env = (false, eval a X.env) :: starEach [.Name nm pT] X.env := by rfl) (hs2 : starEach (.Name nm pT :: []) X.env = (false, eval (.Name nm pT) X.env) :: starEach [] X.env := by rfl) (hpl : (backTo pos (starEach [.Name nm pT] X.env)).any (·.1) = false := by rfl) :
    SE X cl (.Call (.Name "isinstance" p) [a, .Name nm pT] [] pos) (mIsX tb m) := by
  refine PE.weak (pe_callB (call_isX (.type T)) hg hm (by decide +kernel) (pa_cons he (pa_cons (pe_bltn (v := .ty T) hgT hmT hvT rfl hn hd) pa_nil hs2) hs) (he := hs) (hpl := hpl)) fun σ H Q ⟨F, α, δ, μ, z, μ', C', Ee, hm, k⟩ => ?_
  unfold mIsX at hm
  split at hm
  rotate_left
  · cases hm
  rename_i c ns xs μ1 h1
  split at hm
  rotate_left
  · cases hm
  rename_i b h2
  cases hm
  obtain ⟨i1, i2⟩ := hI.ok _ (lookN_mem h2)
  refine ⟨F, α, δ, μ, _, μ', C', Ee, h1, fun v F1 H1 e1 c1 q1 => ?_⟩
  obtain ⟨a0, d, fs, rfl, g1, g2⟩ := exc_rep c1.sub q1
  exact ⟨a0, cl c, d, fs, .ty T, b, rfl, rfl, fun w hw => hw, g1, g2, i1, i2, k _ F1 H1 e1 c1 (.bl _)⟩

@[simp] def lookS (ns : List Str) (xs : List D) (f : Str) : Option D := match ns, xs with
  | n :: ns, x :: xs => if f = n then some x else lookS ns xs f
  | _, _ => none
@[simp] def mFldX (cs : List Nat) (f : Str) (m : ME) : ME := fun δ μ => match m δ μ with
  | some (.dat (.exc c ns xs), μ1) => if cs.contains c = true then match lookS ns xs f with
      | some d => some (.dat d, μ1)
      | none => none
    else none
  | _ => none
/-- classes whose errors' fields may be read -/
structure FlX (K : PySem.W.Frag) (cl : Nat → Addr) (f : Str) (cs : List Nat) : Prop where
  ok : ∀ c ∈ cs, XfC K (cl c) ∧ PySem.W.findIn K (.ref (cl c)) f = some none
theorem lookS_ok {F : Hp} : ∀ {ns : List Str} {vs : List V} {xs : List D} {f : Str} {d : D}, Reps K cl F vs xs → lookS ns xs f = some d → ∃ v, (ns.zip vs).lookup f = some v ∧ Rep K cl F v d
  | [], _, _, _, _, _, h => by
    unfold lookS at h
    cases h
  | _ :: _, _, [], _, _, _, h => by
    unfold lookS at h
    cases h
  | n :: ns, _, x :: xs, f, d, .cons r q, h => by
    unfold lookS at h
    rw [List.zip_cons_cons, lookup_put]
    split at h
    · rename_i e
      cases h
      rw [if_pos e]
      exact ⟨_, rfl, r⟩
    · rename_i e
      rw [if_neg e]
      exact lookS_ok q h
theorem se_fldX {f : Str} {cs : List Nat} (hF : FlX X.K cl f cs) (he : SE X cl a m) (hb : attributeBase a f X.env (eval a X.env) = eval a X.env := by rfl) : SE X cl (.Attribute a f pos) (mFldX cs f m) := by
  refine ⟨fun pins s σ H Q I h => ?_⟩
  obtain ⟨F, α, δ, μ, z, μ', C', Ee, hm, k⟩ := h
  unfold mFldX at hm
  split at hm
  rotate_left
  · cases hm
  rename_i c ns xs μ1 h1
  split at hm
  rotate_left
  · cases hm
  rename_i hc
  split at hm
  rotate_left
  · cases hm
  rename_i d h2
  cases hm
  obtain ⟨T, hno⟩ := hF.ok c (by simpa using hc)
  refine attr_of hb (thn (he.run pins s σ H (fun v H1 => ∃ a0 dd vs, v = .ref a0 ∧ H1 a0 = some (exv a0 (cl c) (some dd)) ∧ H1 dd = some (.xd (ns.zip vs)) ∧ ∃ v2, (ns.zip vs).lookup f = some v2 ∧ Q v2 H1) I ⟨F, α, δ, μ, _, μ', C', Ee, h1, fun v F1 H1 e1 c1 q1 => ?_⟩) fun u s1 hh => ?_)
  · have q1 : Rep X.K cl F1 v (.exc c ns xs) := q1
    cases q1 with
    | exc0 _ =>
      unfold lookS at h2
      cases h2
    | exc g1 g2 g3 g4 =>
      obtain ⟨v2, l2, r2⟩ := lookS_ok g4 h2
      exact ⟨_, _, _, rfl, c1.sub _ _ g1, c1.sub _ _ g2, v2, l2, k _ F1 H1 e1 c1 r2⟩
  · obtain ⟨x, H1, I1, rx, a0, dd, vs, rfl, g1, g2, v2, l2, q⟩ := hh
    obtain rfl : u = Value.ref a0 := rx
    obtain ⟨ox, od, J, kk⟩ := exv_inst (fs := ns.zip vs) I1 g1 fun d2 e => by cases e; exact g2
    obtain ⟨oD, mA, rfl, ho, hns, hr⟩ := kk dd rfl
    obtain ⟨od2, ho2, hl⟩ := lookIn_ns hns
    rw [ho] at ho2
    cases ho2
    obtain ⟨u, hu, ru⟩ := RelO.some_of (v := v2) (o := mA f) (by rw [← l2]; exact hr f)
    exact HandSPX.exc_get I1.kIn J T.ga T.gg T.exC (PySem.W.findObj_own T.hdC hno rfl (by rw [hl, hu])) (handed_of ru) ⟨v2, H1, I1.tok _, ru, q⟩
end

section
variable {X : Cx} {cl : Nat → Addr} {T : Expr} {n y : Str} {i j : Nat} {body : List Stmt} {pn py pa pos pos' : Pos} {hd : List Nat} {bx : MSX}
@[simp] def mTryK (hd : List Nat) (i j : Nat) (bx : MSX) : MS := fun δ μ => match bx δ μ with
  | some (.inl fl) => some fl
  | some (.inr (.exc c ns xs, δ', μ')) => if hd.contains c = true then some (.nx (((δ'.set i (.dat (.exc c ns xs))).set j (.dat (.exc c ns xs))).set i .no) μ') else none
  | _ => none
theorem EnvOk.gone {K : PySem.W.Frag} {F : Hp} {α : List Addr} {σ : L2.St} {δ : Sl} (h : EnvOk K cl F α σ δ) (i : Nat) : EnvOk K cl F α (σ.set i none) (δ.set i .no) := by
  refine ⟨by simp [h.1], fun q d e => ?_, fun q k e => ?_⟩
  · by_cases hq : i = q
    · subst hq
      have hi : i < δ.length := by
        have := (List.getElem?_eq_some_iff.mp e).1
        simpa using this
      rw [List.getElem?_set_self hi] at e
      cases e
    · rw [List.getElem?_set_ne hq] at e ⊢
      exact h.2.1 q d e
  · by_cases hq : i = q
    · subst hq
      have hi : i < δ.length := by
        have := (List.getElem?_eq_some_iff.mp e).1
        simpa using this
      rw [List.getElem?_set_self hi] at e
      cases e
    · rw [List.getElem?_set_ne hq] at e ⊢
      exact h.2.2 q k e
theorem ss_tryK (hs : X.stack = X.env :: X.outer) (hf : X.env.frame = some X.env.locals) (hex : X.ex = []) (hN : X.N.Nodup) (ht : ∀ c ∈ hd, TestOk X (.ref (cl c)) T)
    (hb : ∀ (W : WX) (pn : List (Addr × Obj)) (xe : Value → Shared → Prop), Takes (X.tr pn xe) W → SSXs (X.tr pn xe) cl W body bx)
    (hi : X.N[i]? = some n := by rfl) (hln : X.env.kindOf n = some .local := by rfl) (hj : X.N[j]? = some y := by rfl) (hly : X.env.kindOf y = some .local := by rfl) (hij : i ≠ j := by decide) (hil : i < X.N.length := by exact Nat.le_of_ble_eq_true rfl)
    (hnd : (n == ("__debug__" : Str)) = false := by decide) (hcd : (n == ("__classdict__" : Str)) = false := by decide)
    (hsw : swapsWith (.Name n pn) (some (.Name y py)) pa.line X.env = pure false := by rfl) :
    SS X cl (.Try body [.ExceptHandler (some T) (some n) [.Assign [.Name y py] (.Name n pn) pa] pos'] [] [] pos) (mTryK hd i j bx) := by
  refine PS.weak (ps_try_keep (Hd := fun cls => ∃ c ∈ hd, cls = .ref (cl c)) (tb := fun W => tmx X.K cl W bx) hs hf hex hN hi hln hj hly hij hil hnd hcd (fun cls ⟨c, hc, e⟩ => by rw [e]; exact ht c hc) (fun W pn xe tk _ => hb W pn xe tk) hsw) fun E σ H ⟨F, α, δ, μ, fl, C, Ee, hm, k⟩ => ?_
  unfold mTryK at hm
  split at hm
  · rename_i fl' h1
    cases hm
    exact ⟨F, α, δ, μ, _, C, Ee, h1, k⟩
  · rename_i c ns xs δ' μ' h1
    split at hm
    rotate_left
    · cases hm
    rename_i hc
    cases hm
    refine ⟨F, α, δ, μ, _, C, Ee, h1, fun cls d F1 α1 σ1 H1 e1 c1 q1 x1 => ?_⟩
    obtain ⟨rfl, x2⟩ := x1
    refine ⟨⟨c, by simpa using hc, rfl⟩, cl c, rfl, fun a na => ?_⟩
    obtain ⟨e2, c2⟩ := c1.new (o := exv a (cl c) d) na
    have q2 := q1.step e2
    have ea : upd F1 a (exv a (cl c) d) a = some (exv a (cl c) d) := upd_same
    have rp : Rep X.K cl (upd F1 a (exv a (cl c) d)) (.ref a) (.exc c ns xs) := by
      rcases x2 with ⟨rfl, rfl, rfl⟩ | ⟨dd, vs, rfl, h3, h4, h5⟩
      · exact .exc0 ea
      · refine .exc ea ?_ h4 (h5.mono e2.ff)
        exact e2.ff _ _ h3
    exact k _ α1 _ _ (e1.trans e2) c2 (((q2.put i rp).put j rp).gone i)
  · cases hm
end
end DL
set_option Elab.async false
set_option linter.all false
set_option maxRecDepth 100000
set_option maxHeartbeats 2000000

namespace DL
open PySem PySem.Spec PyProof.Rows L2 NdefX
theorem mDefX_ar {n N : Nat} {body : MSX} : ∀ rs μ z, mDefX n N body rs μ = some z → rs.length = n := fun rs μ z h => by
  unfold mDefX at h
  split at h
  · assumption
  · cases h
section
variable {X : Cx} {σ : L2.St} {H : Hp} {e : Expr} {es : List Expr} {i : Nat} {pos : Pos}
theorem pt_arg (he : PE X e (tVar (i + 1))) (h : ∃ n : Int, σ[i + 1]? = some (some (.int n)) ∧ n.natAbs < 2 ^ 64) : PtE X σ H (.FormattedValue e (-1) none pos) := by
  obtain ⟨n, h1, h2⟩ := h
  exact pt_fmt he h1 h2
theorem pts_nil : ∀ e ∈ ([] : List Expr), PtE X σ H e := fun _ h => absurd h (by simp)
theorem pts_cons (h : PtE X σ H e) (q : ∀ e ∈ es, PtE X σ H e) : ∀ e' ∈ e :: es, PtE X σ H e' := fun e' h' => by
  rcases List.mem_cons.mp h' with rfl | h'
  · exact h
  · exact q _ h'
end
section
variable {P : Program} {w : World} {K : PySem.W.Frag} {mg : Str → Option Value} {base : Heap} {cl : Nat → Addr} {k n np c : Nat} {mf : MFX} {ks : List Str} {is : List Nat} {nm y : Str} {f : Addr} {fd : FuncData} {ps : List Str}
/-- a def at an address, called so -/
structure FAX (P : Program) (w : World) (K : PySem.W.Frag) (mg : Str → Option Value) (base : Heap) (cl : Nat → Addr) (k : Nat) (g : Addr) (n : Nat) (m : MFX) (np : Nat) (ks : List Str) (is : List Nat) : Prop where
  ok : ∃ (fd : FuncData) (ps : List Str), FnOk P w K mg base (L2.CX P w) k g fd ps (spMX K cl n m) ∧ KBn K fd ps np ks (fun us ws => pick is (us ++ ws)) (fun us ws => pick is (us ++ ws))
  kp : PySem.W.keepIn K (.ref g) = true
  ar : ∀ rs μ z, m rs μ = some z → rs.length = n
theorem FKX.of (A : FAX P w K mg base cl k f n mf np ks is) (hm : mg nm = some (.ref f)) : FKX P w K mg base cl k nm n mf np ks is := by
  obtain ⟨⟨fd, ps, F, b⟩, kp, ar⟩ := A
  exact ⟨⟨f, fd, ps, F, hm, kp, b⟩, ar⟩
theorem FTX.of {C : Addr} (A : FAX P w K mg base cl k f n mf np ks is) (hm : mg nm = some (.ref C)) (hS : SMet K C y f) : FTX P w K mg base cl k nm y n mf np ks is := by
  obtain ⟨⟨fd, ps, F, b⟩, kp, ar⟩ := A
  exact ⟨⟨C, f, fd, ps, hm, hS, F, kp, b⟩, ar⟩
theorem FMX.of (A : FAX P w K mg base cl k f n mf np ks is) (s : SlX.SCls K (cl c)) (hM : Meth K (cl c) y f) : FMX P w K mg base cl k c y n mf np ks is := by
  obtain ⟨⟨fd, ps, F, b⟩, kp, ar⟩ := A
  exact ⟨s, ⟨f, fd, ps, hM, F, b⟩, ar⟩
theorem exm_rn {C C' : Addr} {b : Bool} (h : PySem.W.subIn K (.ref C) (.ref C') = some b) (hB : PySem.W.subIn K (.ref C') (.type "BaseException") = some true) (ic : PySem.W.isClsIn K C' = true) (ty : PySem.W.typeIn K (.ref C') = some (.type "type")) : PySem.W.exmOne K (.ref C) (.ref C') = some b := by
  have ic' : (PySem.W.clsIn K C').isSome = true := ic
  unfold PySem.W.exmOne PySem.W.kitCls
  simp only [hB, ic', ty, beq_self_eq_true, Bool.and_self, if_true]
  exact h
/-- the classes raised hd, the classes asked for ids: each is known of, those raised are among them -/
structure XmK (K : PySem.W.Frag) (cl : Nat → Addr) (hd ids : List Nat) : Prop where
  all : ∀ c ∈ hd, ∀ d ∈ ids, ∃ v, PySem.W.exmOne K (.ref (cl c)) (.ref (cl d)) = some v
  one : ∀ c ∈ hd, ∃ d ∈ ids, PySem.W.exmOne K (.ref (cl c)) (.ref (cl d)) = some true
theorem XmK.test {X : Cx} {hd ids : List Nat} {es : List Expr} {j : Nat} {pos : Pos} (h : XmK X.K cl hd ids) (hn : Nms X es (ids.map fun d => .ref (cl d))) (hl : es.length ≤ 1000) : ∀ c ∈ hd, TestOk X (.ref (cl c)) (.Tuple es j pos) := fun c hc => by
  refine test_tup hn hl (fun v hv => ?_) ?_
  · obtain ⟨d, hd, rfl⟩ := List.mem_map.mp hv
    exact h.all c hc d hd
  · obtain ⟨d, hd, e⟩ := h.one c hc
    exact ⟨_, List.mem_map.mpr ⟨d, hd, rfl⟩, e⟩
theorem XmK.test1 {X : Cx} {hd : List Nat} {d : Nat} {x : Str} {np : Pos} (h : XmK X.K cl hd [d]) (hm : X.mg x = some (.ref (cl d))) (hg : Gl X x := by rfl) (hb : (x == ("__debug__" : Str)) = false := by decide) : ∀ c ∈ hd, TestOk X (.ref (cl c)) (.Name x np) := fun c hc => by
  obtain ⟨d', hd', e⟩ := h.one c hc
  obtain rfl : d' = d := by simpa using hd'
  exact test_nm hm e hg hb
theorem excC_of {D : Addr} (hga : PySem.W.findIn K (.ref D) "__getattribute__" = some (some (.builtin "BaseException.__getattribute__"))) (hgt : PySem.W.findIn K (.ref D) "__getattr__" = some none) (hs : PySem.W.subIn K (.ref D) (.type "BaseException") = some true) (hd : PySem.W.hasDictIn K D = true)
    (ha : PySem.W.findIn K (.ref D) "__class__" = some (some (.builtin "object.__class__"))) (hn : PySem.W.specialIn K (.builtin "object.__class__") "__get__" = some (some (.builtin "getset_descriptor.__get__"))) (ht : PySem.W.takesIn K (.builtin "object.__class__") = some true) (hm : PySem.W.mroIn K D (.type "object") = some true) : ExcC K D := ⟨hga, hgt, hs, hd, ha, hn, ht, hm⟩
end
end DL
namespace DL
inductive LAll {α : Type} (p : α → Prop) : List α → Prop
  | nil : LAll p []
  | cons {x : α} {l : List α} : p x → LAll p l → LAll p (x :: l)
theorem LAll.mem {α : Type} {p : α → Prop} : ∀ {l : List α}, LAll p l → ∀ x ∈ l, p x
  | _, .nil, _, h => absurd h (by simp)
  | _, .cons a b, x, h => by
    rcases List.mem_cons.mp h with rfl | h
    · exact a
    · exact b.mem x h
end DL
set_option Elab.async false
set_option linter.all false
set_option maxRecDepth 100000
set_option maxHeartbeats 2000000

namespace DL
open PySem PySem.Spec PyProof.Rows L2 NdefX
section
variable {X : Cx} {cl : Nat → Addr} {a : Expr} {m : ME} {p pos : Pos} {tb : List (Nat × Bool)}
/-- what a name in the tuple is: an own class, or one below -/
inductive TyNm (X : Cx) : List Expr → List V → List Value → Prop
  | nil : TyNm X [] [] []
  | own {x : Str} {np : Pos} {C : Addr} {es : List Expr} {vs : List V} {us : List Value} : Gl X x → X.mg x = some (.ref C) → (x == ("__debug__" : Str)) = false → TyNm X es vs us → TyNm X (.Name x np :: es) (.ref C :: vs) (.ref C :: us)
  | bin {x : Str} {np : Pos} {T : String} {es : List Expr} {vs : List V} {us : List Value} : Gl X x → X.mg x = none → bootBuiltins x = some (.type T) → x ≠ "__name__" → (x == ("__debug__" : Str)) = false → TyNm X es vs us → TyNm X (.Name x np :: es) (.ty T :: vs) (.type T :: us)
def tTys : List V → TA
  | [] => tNil
  | v :: vs => tCons (tC v) (tTys vs)
def rIsXT (K : PySem.W.Frag) (ws : List Value) : List V → Hp → VK → Prop := fun xs H Q => ∃ (a C tp : Addr) (d : Option Addr) (fs : List (Str × V)) (cs : List V) (b : Bool), xs = [V.ref a, .ref tp] ∧ H tp = some (.tup cs) ∧ (∀ us, Vals cs us → us = ws) ∧ H a = some (exv a C d) ∧ (∀ dd, d = some dd → H dd = some (.xd fs)) ∧ ExcC K C ∧ PySem.W.kitAny K (.ref C) ws = some b ∧ Q (.bl b) H
structure IsXT (K : PySem.W.Frag) (cl : Nat → Addr) (us : List Value) (tb : List (Nat × Bool)) : Prop where
  ok : ∀ p ∈ tb, ExcC K (cl p.1) ∧ PySem.W.kitAny K (.ref (cl p.1)) us = some p.2
end
end DL
namespace DL
open PySem PySem.Spec PyProof.Rows L2
section
variable {X : Cx} {cl : Nat → Addr} {tg : Expr} {mt : MT} {pos : Pos}
end
end DL
namespace DL
open PySem PySem.Spec PyProof.Rows L2
end DL
set_option Elab.async false
set_option linter.all false
set_option maxRecDepth 100000
set_option maxHeartbeats 2000000

namespace DL
open PySem PySem.Spec PyProof.Rows L2 NdefX
section
variable {X : Cx} {cl : Nat → Addr} {W : WX} {tg e a b c : Expr} {sts : List Stmt} {m1 : MSX} {m ma mb mc : ME} {p pos : Pos} {K : PySem.W.Frag}
def loopX (gd : Mu → Bool) (t : TGT) (mb : MSX) : List D → Sl → Mu → Option (Flo ⊕ (D × Sl × Mu))
  | [], δ, μ => if gd μ = true then some (.inl (.nx δ μ)) else none
  | x :: xs, δ, μ => if gd μ = true then match t x δ with
      | none => none
      | some δ1 => match mb δ1 μ with
        | some (.inl (.nx δ2 μ2)) => loopX gd t mb xs δ2 μ2
        | some (.inl (.ct δ2 μ2)) => loopX gd t mb xs δ2 μ2
        | some (.inl (.bk δ2 μ2)) => some (.inl (.nx δ2 μ2))
        | some (.inl (.rt r μ2)) => some (.inl (.rt r μ2))
        | some (.inr q) => some (.inr q)
        | none => none
    else none
@[simp] def mForX (mi : MI) (t : TGT) (mb : MSX) : MSX := fun δ μ => match mi δ μ with
  | none => none
  | some (xs, gd, μ1) => loopX gd t mb xs δ μ1
@[simp] def mRgT1 (m : ME) : ME := fun δ μ => match m δ μ with
  | some (.dat (.int j), μ1) => if rgOk 0 j then some (.dat (.tup (rgD 0 j)), μ1) else none
  | _ => none
@[simp] def mRgT3 (ma mb : ME) (st : Int) : ME := fun δ μ => none
end
end DL
set_option Elab.async false
set_option linter.all false
set_option maxRecDepth 100000
set_option maxHeartbeats 2000000

namespace DL
open PySem PySem.Spec PyProof.Rows L2 NdefX
section
variable {X : Cx} {cl : Nat → Addr} {W : WX} {a b e : Expr} {m : ME} {ma mb : MEX} {pos : Pos}
@[simp] def lftE (m : ME) : MEX := fun δ μ => match m δ μ with
  | some z => some (.inl z)
  | none => none
@[simp] def mParX (i j : Nat) (ma mb : MEX) : MSX := fun δ μ => match ma δ μ with
  | none => none
  | some (.inr (e, μ1)) => some (.inr (e, δ, μ1))
  | some (.inl (x, μ1)) => match mb δ μ1 with
    | none => none
    | some (.inr (e, μ2)) => some (.inr (e, δ, μ2))
    | some (.inl (y, μ2)) => match stR false i x δ μ2 with
      | none => none
      | some (δ1, μ3) => match stR false j y δ1 μ3 with
        | none => none
        | some (δ2, μ4) => some (.inl (.nx δ2 μ4))
end
end DL
set_option Elab.async false
set_option linter.all false
set_option maxRecDepth 100000
set_option maxHeartbeats 2000000

namespace DL
open PySem PySem.Spec PyProof.Rows L2 NdefX
section
variable {X : Cx} {CX : CXT} {k n : Nat} {f C : Addr} {fd : FuncData} {ps ks : List Str} {sp : Sp} {E : L2.St → XK} {x : Str} {p pos : Pos} {e : Expr} {es : List Expr} {kws : List Keyword} {t tk : TA} {g : List Value → List Value → List Value} {gV : List V → List V → List V}
def tMakeND (C : Addr) (n m : Nat) (sp : Sp) (gV : List V → List V → List V) (E : L2.St → XK) (t tk : TA) : TE := fun σ H Q => t σ H fun vs H1 => tk σ H1 fun zs H2 => vs.length = n ∧ zs.length = m ∧ ∀ x dx, H2 x = none → H2 dx = none → dx ≠ x →
  sp (gV (.ref x :: vs) zs) (upd (upd H2 dx (.own x)) x (.ins C dx [])) (fun v H3 => v = .non ∧ Q (.ref x) H3) (E σ)
end
abbrev MInX := List R → Mu → Option ((List D × Mu) ⊕ (D × Mu))
/-- if c: raise ..; then the slots -/
@[simp] def mInitX (n N : Nat) (mt : MT) (mr : MSX) (mb : MB) : MInX := fun rs μ => if rs.length + 1 = n then
    match mt (.no :: (rs ++ List.replicate (N - n) .no)) μ with
    | some (true, μ1) => match mr (.no :: (rs ++ List.replicate (N - n) .no)) μ1 with
      | some (.inr (e, _, μ')) => if lowM μ.length μ' = true then some (.inr (e, μ'.take μ.length)) else none
      | _ => none
    | some (false, μ1) => match mb (.no :: (rs ++ List.replicate (N - n) .no)) μ1 [] with
      | some (μ', pd) => match someAll pd with
        | some ds => some (.inl (ds, μ'))
        | none => none
      | none => none
    | none => none
  else none
def EndI (K : PySem.W.Frag) (cl : Nat → Addr) (F : Hp) (α : List Addr) (H0 : Hp) (x : Addr) (c : Nat) (Q : VK) (E : XK) : (List D × Mu) ⊕ (D × Mu) → Prop
  | .inl (ds, μ') => ∀ F' H', Evo F α H0 F' α H' → Conc K cl F' α μ' H' → Rep K cl F' (.ref x) (.ins c ds) → Q .non H'
  | .inr (e, μ') => ∀ cls d F' H', Evo F α H0 F' α H' → Conc K cl F' α μ' H' → ExR K cl F' cls d e → E cls d H'
def spIX (K : PySem.W.Frag) (cl : Nat → Addr) (c n : Nat) (mi : MInX) : Sp := fun vs H Q E => ∃ x dx H0 ws F α μ rs z, vs = .ref x :: ws ∧ vs.length = n ∧ H0 x = none ∧ H0 dx = none ∧ dx ≠ x ∧ H = upd (upd H0 dx (.own x)) x (.ins (cl c) dx []) ∧
  Conc K cl F α μ H0 ∧ ArgRs K cl F α ws rs ∧ mi rs μ = some z ∧ EndI K cl F α H0 x c Q E z
section
variable {K : PySem.W.Frag} {cl : Nat → Addr}
def tmbx (K : PySem.W.Frag) (cl : Nat → Addr) (W : WX) (C : Addr) (mt : MT) (mr : MSX) (mb : MB) : TS := fun E σ H => ∃ H0 F0 F α δ μ x dx vs pd, Conc K cl F α μ H ∧ EnvOk K cl F α σ δ ∧ σ[0]? = some (some (.ref x)) ∧ Bd C x dx H0 F0 α F H vs ∧ PRel K cl F vs pd ∧
  ((∃ μ1 e δ' μ', mt δ μ = some (true, μ1) ∧ mr δ μ1 = some (.inr (e, δ', μ')) ∧ ∀ cls d F' α' σ' H', Evo F0 α H0 F' α' H' → Conc K cl F' α' μ' H' → ExR K cl F' cls d e → W cls d σ' H') ∨
   ∃ μ1 μ' pd', mt δ μ = some (false, μ1) ∧ mb δ μ1 pd = some (μ', pd') ∧ ∀ F' H' vs', Conc K cl F' α μ' H' → EnvOk K cl F' α σ δ → Bd C x dx H0 F0 α F' H' vs' → PRel K cl F' vs' pd' → E.nx σ H')
end
/-- a class whose __init__ may raise, with some arguments by names -/
structure FIX (P : Program) (w : World) (K : PySem.W.Frag) (mg : Str → Option Value) (base : Heap) (cl : Nat → Addr) (k c : Nat) (x : Str) (n : Nat) (mi : MInX) (np : Nat) (ks : List Str) (is : List Nat) : Prop where
  ok : ∃ (f : Addr) (fd : FuncData) (ps : List Str), Mk K (cl c) f ∧ FnOk P w K mg base (L2.CX P w) k f fd ps (spIX K cl c n mi) ∧ mg x = some (.ref (cl c)) ∧ KBn K fd ps (np + 1) ks (fun us ws => pick (0 :: is.map (· + 1)) (us ++ ws)) (fun us ws => pick (0 :: is.map (· + 1)) (us ++ ws))
  ar : ∀ rs μ z, mi rs μ = some z → rs.length + 1 = n
section
variable {X : Cx} {cl : Nat → Addr} {W : WX} {e : Expr} {es : List Expr} {ms mk : MA} {pos p : Pos} {k j n np nk c : Nat} {nm : Str} {mi : MInX} {ks : List Str} {is : List Nat} {kws : List Keyword}
@[simp] def mMakeE (c : Nat) (mi : MInX) (np nk : Nat) (is : List Nat) (ms mk : MA) : MEX := fun δ μ => match ms δ μ with
  | none => none
  | some (rs, μ1) => match mk δ μ1 with
    | none => none
    | some (zs, μ2) => if rs.length = np ∧ zs.length = nk then match mi (pick is (rs ++ zs)) μ2 with
        | some (.inl (ds, μ3)) => some (.inl (.dat (.ins c ds), μ3))
        | some (.inr (e, μ3)) => some (.inr (e, μ3))
        | none => none
      else none
end
end DL
set_option Elab.async false
set_option linter.all false
set_option maxRecDepth 100000
set_option maxHeartbeats 1000000

namespace HT
open PySem PySem.Spec PyProof.Rows
section
variable {prog : Program} {w : World} {A : Around} {E : Value → Shared → Prop} {s : Shared}
def stepN (lo st n : Nat) : Nat := if lo < n then (n - lo - 1) / st + 1 else 0
def stepOf {α : Type} (lo st : Nat) (xs : List α) : List α := (List.range (stepN lo st xs.length)).filterMap fun m => xs[lo + m * st]?
end
end HT
set_option Elab.async false
set_option linter.all false
set_option maxRecDepth 100000
set_option maxHeartbeats 1000000

namespace DL
open PySem PySem.Spec PyProof.Rows L2
section
variable {X : Cx} {cl : Nat → Addr} {e : Expr} {m : ME} {pos : Pos} {K : PySem.W.Frag}
def tStep (K : PySem.W.Frag) (te tl ts : TE) : TE := fun σ H Q => te σ H fun x H1 => tPart tl σ H1 fun l H2 => tPart ts σ H2 fun st H3 => ∃ (a : Addr) (xs : List V) (i j : Nat), x = .ref a ∧ l = some (i : Int) ∧ st = some (j : Int) ∧ 0 < j ∧ SqT K H3 a xs ∧
  ((min i xs.length = 0 ∧ j = 1) → Q (.ref a) H3) ∧ ∀ p, H3 p = none → Q (.ref p) (upd H3 p (.tup (HT.stepOf i j xs)))
@[simp] def mStep (m ml ms : ME) : ME := fun δ μ => match m δ μ with
  | some (.dat (.tup xs), μ1) => match ml δ μ1 with
    | some (.dat (.int i), μ2) => match ms δ μ2 with
      | some (.dat (.int j), μ3) => if 0 ≤ i ∧ 0 < j then some (.dat (.tup (HT.stepOf i.toNat j.toNat xs)), μ3) else none
      | _ => none
    | _ => none
  | _ => none
end
end DL
set_option Elab.async false
set_option linter.all false
set_option maxRecDepth 100000
set_option maxHeartbeats 1000000

namespace DL
open PySem PySem.Spec PyProof.Rows L2
section
variable {X : Cx} {cl : Nat → Addr} {mo mk : ME} {o : Expr} {apos cpos : Pos}
@[simp] def mDGet1 (mo mk : ME) : ME := fun δ μ => match mo δ μ with
  | some (.cel i, μ1) => match μ1[i]? with
    | some (.dk false _) => match mk δ μ1 with
      | some (rk, μ2) => match keyR rk with
        | some k => match μ2[i]? with
          | some (.dk false kvs) => match valK kvs k with
            | some w => some (elR2 w, μ2)
            | none => some (.dat .non, μ2)
          | _ => none
        | none => none
      | none => none
    | _ => none
  | _ => none
end
end DL
set_option Elab.async false
set_option linter.all false
set_option maxRecDepth 100000
set_option maxHeartbeats 1000000

namespace DL
open PySem PySem.Spec PyProof.Rows L2
section
variable {X : Cx} {cl : Nat → Addr} {a b : Expr} {ma mb : ME} {pos : Pos} {K : PySem.W.Frag}
def itOf : List D → Option (Int × List Int)
  | [.int i, .tup xs] => match intsOf xs with
    | some ns => some (i, ns)
    | none => none
  | _ => none
abbrev pyIT (p : Int × List Int) : List PyData := [.int p.1, .tuple (pyI p.2)]
def ltIT (p q : Int × List Int) : Bool := if p.1 = q.1 then HT.lexLt p.2 q.2 else decide (p.1 < q.1)
@[simp] def fLt3 : R → R → Mu → Option R
  | .dat (.tup xs), .dat (.tup ys), μ => match itOf xs, itOf ys with
    | some p, some q => some (.dat (.bl (ltIT p q)))
    | _, _ => fLt (.dat (.tup xs)) (.dat (.tup ys)) μ
  | x, y, μ => fLt x y μ
end
end DL
set_option Elab.async false
set_option linter.all false
set_option maxRecDepth 100000
set_option maxHeartbeats 1000000

namespace DL
open PySem PySem.Spec PyProof.Rows L2
section
variable {X : Cx} {pins : List (Addr × Obj)} {σ : L2.St} {H : Hp} {s : Shared} {a o : Addr} {kvs more : List (Key × V)} {A : Around} {E : Value → Shared → Prop}
end
def tDUpd (td ty : TE) : TE := fun σ H Q => td σ H fun x H1 => ∃ a, x = .ref a ∧ IsD H1 a ∧ ty σ H1 fun y H2 => ∃ b kvs more, y = .ref b ∧ H2 a = some (.dK kvs) ∧ H2 b = some (.dK more) ∧ a ≠ b ∧ kvs.length + more.length ≤ sizeLine ∧ Q .non (upd H2 a (.dK (mergeK kvs more)))
section
variable {X : Cx} {o e : Expr} {apos cpos : Pos} {td ty : TE}
end
def mergeE (kvs more : List (Key × El)) : List (Key × El) := more.foldl (fun acc kv => putE acc kv.1 kv.2) kvs
section
variable {X : Cx} {cl : Nat → Addr} {mo ma : ME} {o e : Expr} {apos cpos : Pos}
@[simp] def mDUpd (mo ma : ME) : ME := fun δ μ => match mo δ μ with
  | some (.cel i, μ1) => match μ1[i]? with
    | some (.dk false _) => match ma δ μ1 with
      | some (.fc (.dk false more), μ2) => match μ2[i]? with
        | some (.dk false kvs) => if kvs.length + more.length < 100000 then some (.dat .non, μ2.set i (.dk false (mergeE kvs more))) else none
        | _ => none
      | _ => none
    | _ => none
  | _ => none
end
end DL
namespace DL
open PySem PySem.Spec PyProof.Rows L2

section
variable {X : Cx} {cl : Nat → Addr} {K : PySem.W.Frag} {a : Expr} {ms : MA} {p pos : Pos}
@[simp] def fLenK : List R → Mu → Option R := fun rs μ => match rs with
  | [.cel k] => match μ[k]? with
    | some (.dk false kvs) => some (.dat (.int kvs.length))
    | _ => none
  | _ => none
end
end DL
set_option Elab.async false
set_option linter.all false
set_option maxRecDepth 100000
set_option maxHeartbeats 2000000

namespace DL
open PySem PySem.Spec PyProof.Rows L2
abbrev PT2 (K : PySem.W.Frag) (H : Hp) : List (List Int × V) → List (List Int × Addr × Value) → Prop := Paired fun p q => p.1 = q.1 ∧ SqT K H q.2.1 (p.1.map V.int) ∧ RelV p.2 q.2.2
theorem PT2.val {K : PySem.W.Frag} {H : Hp} {kvs : List (List Int × V)} {xs : List (List Int × Addr × Value)} (r : PT2 K H kvs xs) (k : List Int) : RelO (valV kvs k) ((atKey xs k).map (·.2)) := by
  induction r with
  | nil => exact True.intro
  | @cons p q ps qs h t ih =>
    obtain ⟨h1, _, h2⟩ := h
    by_cases e : p.1 = k
    · have e' : q.1 = k := h1.symm.trans e
      have b : atKey (q :: qs) k = some q.2 := by simp [atKey, List.find?_cons, e']
      rw [valV_pos e, b]; exact h2
    · have e' : ¬ q.1 = k := fun z => e (h1.trans z)
      have b : atKey (q :: qs) k = atKey qs k := by simp [atKey, List.find?_cons, e']
      rw [valV_neg e, b]; exact ih
theorem PT2.repl {K : PySem.W.Frag} {H : Hp} {kvs : List (List Int × V)} {xs : List (List Int × Addr × Value)} (r : PT2 K H kvs xs) (k : List Int) {y : V} {u : Value} (ry : RelV y u) :
    PT2 K H (kvs.map fun kv => if kv.1 = k then (kv.1, y) else kv) (xs.map (putAt k u)) := by
  induction r with
  | nil => exact .nil
  | @cons p q ps qs h t ih =>
    rw [List.map_cons, List.map_cons]
    refine .cons ?_ ih
    obtain ⟨h1, h2, h3⟩ := h
    unfold putAt
    by_cases e : p.1 = k
    · rw [if_pos e, if_pos (h1.symm.trans e)]; exact ⟨h1, h2, ry⟩
    · rw [if_neg e, if_neg (fun z => e (h1.trans z))]; exact ⟨h1, h2, h3⟩
theorem PT2.put {K : PySem.W.Frag} {H : Hp} {kvs : List (List Int × V)} {xs : List (List Int × Addr × Value)} (r : PT2 K H kvs xs) (k : List Int) {b : Addr} {y : V} {u : Value} (hb : SqT K H b (k.map V.int)) (ry : RelV y u) :
    PT2 K H (putK kvs k y) (storedH xs k b u) := by
  have e : (kvs.any fun kv => decide (kv.1 = k)) = (atKey xs k).isSome := by
    rw [valV_any, (r.val k).isSome_eq, Option.isSome_map]
  unfold putK storedH
  rw [e]
  by_cases q : (atKey xs k).isSome = true
  · rw [if_pos q, if_pos q]; exact r.repl k ry
  · rw [if_neg q, if_neg q]; exact Paired.snoc r ⟨rfl, hb, ry⟩
theorem PT2.keys {K : PySem.W.Frag} {H : Hp} {kvs : List (List Int × V)} {xs : List (List Int × Addr × Value)} (r : PT2 K H kvs xs) : kvs.map (·.1) = xs.map (·.1) := by
  induction r with
  | nil => rfl
  | cons h t ih => rw [List.map_cons, List.map_cons, ih, h.1]
section
variable {X : Cx} {pins : List (Addr × Obj)} {σ : L2.St} {H : Hp} {s : Shared} {a q : Addr} {us : List (List Int × V)} {ks : List Int} {b : Bool} {A : Around} {E : Value → Shared → Prop}
/-- what the dict at a holds at the key y -/
def TGet (K : PySem.W.Frag) (H : Hp) (a : Addr) (y : V) (r : Option V) : Prop := ∃ b us k q, DtH K H a (H a) b us ∧ y = .ref q ∧ SqT K H q (k.map V.int) ∧ r = valV us k
end


def tTGet (K : PySem.W.Frag) (td ty : TE) : TE := fun σ H Q => td σ H fun x H1 => ty σ H1 fun y H2 => ∃ a v, x = .ref a ∧ TGet K H2 a y (some v) ∧ Q v H2
def tTIn (K : PySem.W.Frag) (ty td : TE) : TE := fun σ H Q => ty σ H fun y H1 => td σ H1 fun x H2 => ∃ a o, x = .ref a ∧ TGet K H2 a y o ∧ Q (.bl o.isSome) H2
def tTNotIn (K : PySem.W.Frag) (ty td : TE) : TE := fun σ H Q => ty σ H fun y H1 => td σ H1 fun x H2 => ∃ a o, x = .ref a ∧ TGet K H2 a y o ∧ Q (.bl (!o.isSome)) H2
def tTGet2 (K : PySem.W.Frag) (td ty tx : TE) : TE := fun σ H Q => td σ H fun x H1 => ∃ a, x = .ref a ∧ (∃ b us, DtH K H1 a (H1 a) b us) ∧ ty σ H1 fun y H2 => tx σ H2 fun z H3 => ∃ o, TGet K H3 a y o ∧ Q (o.getD z) H3
def sTPut (K : PySem.W.Frag) (td ty tv : TE) : TS := fun D σ H => tv σ H fun v H1 => td σ H1 fun x H2 => ty σ H2 fun y H3 => ∃ a us xs k q, x = .ref a ∧ H3 a = some (.ext (phT a xs)) ∧ PT2 K H3 us xs ∧ (a == sysModules) = false ∧ (us.map (·.1)).Nodup ∧ us.length ≤ sizeLine ∧ y = .ref q ∧ SqT K H3 q (k.map V.int) ∧
  ∀ r, RelV v r → ((storedH xs k q r).map (·.1)).Nodup → D.nx σ (upd H3 a (.ext (phT a (storedH xs k q r))))
def tTNewX : TE := fun _ H Q => ∀ p, H p = none → (p == sysModules) = false → Q (.ref p) (upd H p (.ext (phT p [])))
section
variable {X : Cx} {o i e f value : Expr} {apos cpos pos pos' : Pos} {td ty tx tv : TE}
end
def valI {β : Type} (kvs : List (List Int × β)) (k : List Int) : Option β := (kvs.find? fun kv => decide (kv.1 = k)).map (·.2)
def putEI {β : Type} (kvs : List (List Int × β)) (k : List Int) (v : β) : List (List Int × β) := if (kvs.any fun kv => decide (kv.1 = k)) = true then kvs.map (fun kv => if kv.1 = k then (kv.1, v) else kv) else kvs ++ [(k, v)]
section
variable {X : Cx} {cl : Nat → Addr} {e o a b kx : Expr} {mo mk : ME} {pos : Pos} {K : PySem.W.Frag}
@[simp] def keyRI : R → Option (List Int)
  | .dat (.tup ds) => intsOf ds
  | _ => none
@[simp] def mTNew : ME := fun _ μ => some (.fc (.dt false []), μ)
@[simp] def mTGet (mo mk : ME) : ME := fun δ μ => match mo δ μ with
  | some (.cel i, μ1) => match mk δ μ1 with
    | some (rk, μ2) => match keyRI rk with
      | some k => match μ2[i]? with
        | some (.dt _ kvs) => match valI kvs k with
          | some w => some (elR2 w, μ2)
          | none => none
        | _ => none
      | none => none
    | none => none
  | _ => none
@[simp] def mTPut (mo mk mv : ME) : MS := fun δ μ => match mv δ μ with
  | some (r, μ1) => match toD r with
    | some d => match mo δ μ1 with
      | some (.cel i, μ2) => match mk δ μ2 with
        | some (rk, μ3) => match keyRI rk with
          | some k => match μ3[i]? with
            | some (.dt false kvs) => if kvs.length < 100000 then some (.nx δ (μ3.set i (.dt false (putEI kvs k (.d d))))) else none
            | _ => none
          | none => none
        | none => none
      | _ => none
    | none => none
  | none => none
@[simp] def mTIn (neg : Bool) (mk mo : ME) : ME := fun δ μ => match mk δ μ with
  | some (rk, μ1) => match mo δ μ1 with
    | some (.cel i, μ2) => match keyRI rk with
      | some k => match μ2[i]? with
        | some (.dt _ kvs) => some (.dat (.bl (xor neg (valI kvs k).isSome)), μ2)
        | _ => none
      | none => none
    | _ => none
  | none => none
variable {mx : ME} {apos cpos : Pos}
@[simp] def mTGet2 (mo mk mx : ME) : ME := fun δ μ => match mo δ μ with
  | some (.cel i, μ1) => match μ1[i]? with
    | some (.dt false _) => match mk δ μ1 with
      | some (rk, μ2) => match keyRI rk with
        | some k => match mx δ μ2 with
          | some (r, μ3) => match μ3[i]? with
            | some (.dt false kvs) => match valI kvs k with
              | some w => some (elR2 w, μ3)
              | none => some (r, μ3)
            | _ => none
          | none => none
        | none => none
      | none => none
    | _ => none
  | _ => none
end
end DL
set_option Elab.async false
set_option linter.all false
set_option maxRecDepth 100000
set_option maxHeartbeats 2000000

namespace DL
open PySem PySem.Spec PyProof.Rows L2
section
variable {F F' H H' : Hp} {α α' : List Addr} {μ : Mu} {ad : Addr} {od : Obj} {φ : Heap → Prop} {v : V} {r : R} {K : PySem.W.Frag} {cl : Nat → Addr}
end
section
variable {X : Cx} {cl : Nat → Addr} {e o a b kx : Expr} {st : Stmt} {mo mk m md : ME} {m1 : MS} {pos : Pos} {K : PySem.W.Frag} {tg : Expr} {apos cpos : Pos}
@[simp] def mLkT (i : Nat) (m : ME) : ME := fun δ μ => match δ[i]? with
  | some (.cel k) => match μ[k]? with
    | some (.dt false kvs) => match m δ (μ.set k (.dt true kvs)) with
      | some (r, μ2) => some (r, μ2.set k (.dt false kvs))
      | none => none
    | _ => none
  | _ => none
@[simp] def mLkST (i : Nat) (m : MS) : MS := fun δ μ => match δ[i]? with
  | some (.cel k) => match μ[k]? with
    | some (.dt false kvs) => match m δ (μ.set k (.dt true kvs)) with
      | some fl => some (unl k (.dt false kvs) fl)
      | none => none
    | _ => none
  | _ => none
@[simp] def mLkCT (m0 m : ME) : ME := fun δ μ => match m0 δ μ with
  | some (.cel k, _) => match μ[k]? with
    | some (.dt false kvs) => match m δ (μ.set k (.dt true kvs)) with
      | some (r, μ2) => some (r, μ2.set k (.dt false kvs))
      | none => none
    | _ => none
  | _ => none
@[simp] def mLkSCT (m0 : ME) (m : MS) : MS := fun δ μ => match m0 δ μ with
  | some (.cel k, _) => match μ[k]? with
    | some (.dt false kvs) => match m δ (μ.set k (.dt true kvs)) with
      | some fl => some (unl k (.dt false kvs) fl)
      | none => none
    | _ => none
  | _ => none
end

def ItkX (d : Addr) (o : Obj) (xs : List (List Int × Addr × Value)) : It :=
  ⟨fun i H => H d = some (.frz o (.ext (phT d xs))) ∧ i < xs.length, fun i H x H' => H' = H ∧ ∃ p, xs[i]? = some p ∧ x = .ref p.2.1, fun i H => H d = some (.frz o (.ext (phT d xs))) ∧ xs.length ≤ i⟩
def ItdX (d : Addr) (o : Obj) (us : List (List Int × V)) (xs : List (List Int × Addr × Value)) : It :=
  ⟨fun i H => H d = some (.frz o (.ext (phT d xs))) ∧ i < xs.length, fun i H x H' => H' = H ∧ ∃ p q, us[i]? = some p ∧ xs[i]? = some q ∧ x = p.2, fun i H => H d = some (.frz o (.ext (phT d xs))) ∧ xs.length ≤ i⟩
section
variable {P : Program} {w : World} {K : PySem.W.Frag} {tg : Expr} {d : Addr} {o : Obj} {es : Array DictEntry} {ep : Nat} {xs : List (List Int × Addr × Value)} {us : List (List Int × V)}
end
def iKeysX (td : TE) : TI := fun σ H R => td σ H fun x H1 => ∃ d o xs, x = .ref d ∧ (d == sysModules) = false ∧ H1 d = some (.frz o (.ext (phT d xs))) ∧ R (ItkX d o xs) H1
def iValsX (td : TE) : TI := fun σ H R => td σ H fun x H1 => ∃ d o us xs, x = .ref d ∧ (d == sysModules) = false ∧ H1 d = some (.frz o (.ext (phT d xs))) ∧ Paired (fun (p : List Int × V) (q : List Int × Addr × Value) => RelV p.2 q.2.2) us xs ∧ R (ItdX d o us xs) H1
section
variable {X : Cx} {tg e : Expr} {td : TE} {apos cpos : Pos}
end

section
variable {X : Cx} {cl : Nat → Addr} {e o a b kx : Expr} {st : Stmt} {mo mk m md : ME} {m1 : MS} {pos : Pos} {K : PySem.W.Frag} {tg : Expr} {apos cpos : Pos}
def tuK (k : List Int) : D := .tup (k.map D.int)
@[simp] def mItKT (m : ME) : MI := fun δ μ => match m δ μ with
  | some (.cel k, μ1) => match μ1[k]? with
    | some (.dt true kvs) => some (kvs.map fun p => tuK p.1, yes, μ1)
    | _ => none
  | _ => none
@[simp] def mItVT (i : Nat) : MIE := fun δ μ => match δ[i]? with
  | some (.cel k) => match μ[k]? with
    | some (.dt true kvs) => some (kvs.map (·.2), yes, μ)
    | _ => none
  | _ => none
end

section
variable {X : Cx} {pins : List (Addr × Obj)} {σ : L2.St} {H : Hp} {s : Shared} {a q : Addr} {us : List (List Int × V)} {A : Around} {E : Value → Shared → Prop}
end
def tTSetDef (K : PySem.W.Frag) (td ty tx : TE) : TE := fun σ H Q => td σ H fun x H1 => ∃ ad, x = .ref ad ∧ (∃ b us, DtH K H1 ad (H1 ad) b us) ∧ ty σ H1 fun y H2 => tx σ H2 fun z H3 => ∃ us xs k q, H3 ad = some (.ext (phT ad xs)) ∧ PT2 K H3 us xs ∧ (ad == sysModules) = false ∧ (us.map (·.1)).Nodup ∧ us.length < sizeLine ∧ y = .ref q ∧ SqT K H3 q (k.map V.int) ∧
  (∀ v, valV us k = some v → Q v H3) ∧ (valV us k = none → ∀ r, RelV z r → ((storedH xs k q r).map (·.1)).Nodup → Q z (upd H3 ad (.ext (phT ad (storedH xs k q r)))))
section
variable {X : Cx} {cl : Nat → Addr} {e f o a b kx : Expr} {st : Stmt} {mo mk m md : ME} {m1 : MS} {pos : Pos} {K : PySem.W.Frag} {tg : Expr} {apos cpos : Pos} {td ty tx : TE}
@[simp] def sdefT (i : Nat) (k : List Int) (μ : Mu) : Option (Nat × Mu) := match μ[i]? with
  | some (.dt false kvs) => if kvs.length < 100000 then match valI kvs k with
      | some (.c j) => some (j, μ)
      | some (.d _) => none
      | none => some (μ.length, (μ ++ [Cel.l []]).set i (.dt false (putEI kvs k (.c μ.length))))
    else none
  | _ => none
@[simp] def mSdAppT (mo mk md mv : ME) : MS := fun δ μ => match mo δ μ with
  | some (.cel i, μ1) => match μ1[i]? with
    | some (.dt false _) => match mk δ μ1 with
      | some (rk, μ2) => match keyRI rk with
        | some k => match md δ μ2 with
          | some (.fr [], μ3) => match sdefT i k μ3 with
            | some (j, μs) => appC j mv δ μs
            | none => none
          | _ => none
        | none => none
      | none => none
    | _ => none
  | _ => none
end
end DL
set_option Elab.async false
set_option linter.all false
set_option maxRecDepth 100000
set_option maxHeartbeats 2000000

namespace DL
open PySem PySem.Spec PyProof.Rows L2
def tDispT (K : PySem.W.Frag) (tk tv : TE) : TE := fun σ H Q => ∀ p, H p = none → (p == sysModules) = false → tk σ (upd H p (.ext (phT p []))) fun x H1 => tv σ H1 fun y H2 => H2 p = some (.ext (phT p [])) ∧ ∃ k q, x = .ref q ∧ SqT K H2 q (k.map V.int) ∧
  ∀ r, RelV y r → Q (.ref p) (upd H2 p (.ext (phT p [(k, q, r)])))
section
variable {X : Cx} {cl : Nat → Addr} {e o a b kx vx : Expr} {mo mk mv : ME} {pos : Pos} {K : PySem.W.Frag} {tk tv : TE}
@[simp] def mDispT (mk mv : ME) : ME := fun δ μ => match mk δ μ with
  | some (rk, μ1) => match keyRI rk with
    | some k => match mv δ μ1 with
      | some (.dat d, μ2) => some (.fc (.dt false [(k, .d d)]), μ2)
      | _ => none
    | none => none
  | none => none
end
end DL
set_option Elab.async false
set_option linter.all false
set_option maxRecDepth 100000
set_option maxHeartbeats 1000000

namespace DL
open PySem PySem.Spec PyProof.Rows L2
def rGeT (K : PySem.W.Frag) : R2 := fun x y H Q => ∃ (p q : Addr) (is js : List Int), x = .ref p ∧ y = .ref q ∧ SqT K H p (is.map V.int) ∧ SqT K H q (js.map V.int) ∧ Q (.bl (!HT.lexLt is js)) H
@[simp] def fGe : R → R → Mu → Option R
  | .dat (.int i), .dat (.int j), _ => some (.dat (.bl (decide (j ≤ i))))
  | .dat (.tup xs), .dat (.tup ys), _ => match intsOf xs, intsOf ys with
    | some is, some js => some (.dat (.bl (!HT.lexLt is js)))
    | _, _ => none
  | _, _, _ => none
section
variable {X : Cx} {cl : Nat → Addr} {a b : Expr} {ma mb : ME} {pos : Pos} {K : PySem.W.Frag}
end
end DL
set_option Elab.async false
set_option linter.all false
set_option maxRecDepth 100000
set_option maxHeartbeats 1000000

namespace DL
open PySem PySem.Spec PyProof.Rows L2
section
variable {X : Cx} {cl : Nat → Addr} {e o a b c tg kx : Expr} {es : List Expr} {m mo mk : ME} {pos p : Pos} {K : PySem.W.Frag}
@[simp] def mDGetV (mo mk : ME) : ME := fun δ μ => match mo δ μ with
  | some (.dat (.dk ks xs), μ1) => match mk δ μ1 with
    | some (rk, μ2) => match keyR rk with
      | some k => match valK (ks.zip xs) k with
        | some d => some (.dat d, μ2)
        | none => none
      | none => none
    | none => none
  | _ => none
@[simp] def mTGetV (mo mk : ME) : ME := fun δ μ => match mo δ μ with
  | some (.dat (.dt ks xs), μ1) => match mk δ μ1 with
    | some (rk, μ2) => match keyRI rk with
      | some k => match valI (ks.zip xs) k with
        | some d => some (.dat d, μ2)
        | none => none
      | none => none
    | none => none
  | _ => none
@[simp] def mAppC (mo m : ME) : MS := fun δ μ => match mo δ μ with
  | some (.cel k, μ1) => match isLst μ1[k]? with
    | true => match m δ μ1 with
      | some (.cel j, μ2) => match nOf μ2[k]? with
        | some es => if es.length < 100000 then some (.nx δ (μ2.set k (Cel.n (es ++ [El.c j])))) else none
        | none => none
      | _ => none
    | false => none
  | _ => none
@[simp] def selfC (c i : Nat) (δ : Sl) (ce : Cel) (μ1 : Mu) : Option Flo := match (δ[0]? : Option R) with
  | some (.cel k) => match stoP c i k (.c μ1.length) (μ1 ++ [ce]) with
    | some μ2 => some (.nx δ μ2)
    | none => none
  | _ => none
@[simp] def mSelfSetC (c i : Nat) (m : ME) : MS := fun δ μ => match m δ μ with
  | some (.fc ce, μ1) => selfC c i δ ce μ1
  | some (.fr xs, μ1) => selfC c i δ (.l xs) μ1
  | _ => none
end
end DL
set_option Elab.async false
set_option linter.all false
set_option maxRecDepth 100000
set_option maxHeartbeats 1000000

namespace ZX
open PySem PySem.Spec PyProof.Rows L2
section
variable {prog : Program} {w : World} {A : Around} {k : Bool} {it l : Addr}
theorem begN (k : Bool) (l : Addr) (items : Array Value) : Begins (.ref l) (itO k l) fun h => Sqn k h l items := by
  cases k
  · exact begins_list l items
  · exact begins_tuple l items
end
/-- the items of three, in new triples -/
def Iz3 (K : PySem.W.Frag) (k1 k2 k3 : Bool) (a b c : Addr) : It where
  go := fun i H => ∃ (xs ys zs : List V) (x y z : V), SqB K k1 H a xs ∧ SqB K k2 H b ys ∧ SqB K k3 H c zs ∧ xs[i]? = some x ∧ ys[i]? = some y ∧ zs[i]? = some z
  yld := fun i H v H' => ∃ T x y z, v = .ref T ∧ H T = none ∧ H' = upd H T (.tup [x, y, z]) ∧ (∀ xs, SqB K k1 H a xs → xs[i]? = some x) ∧ (∀ ys, SqB K k2 H b ys → ys[i]? = some y) ∧ ∀ zs, SqB K k3 H c zs → zs[i]? = some z
  stop := fun i H => ∃ xs ys zs : List V, SqB K k1 H a xs ∧ SqB K k2 H b ys ∧ SqB K k3 H c zs ∧ i ≤ xs.length ∧ i ≤ ys.length ∧ i ≤ zs.length ∧ (i = xs.length ∨ i = ys.length ∨ i = zs.length)
def stZ3 (z TI TO i1 i2 i3 a b c : Addr) (k1 k2 k3 : Bool) (i : Nat) (h : Heap) : Prop := (IsZip h z TI TO .none ∧ IsTupOf3 h TI (.ref i1) (.ref i2) (.ref i3) ∧ ∃ x y u, IsTupOf3 h TO x y u) ∧ Stn k1 h i1 a i ∧ Stn k2 h i2 b i ∧ Stn k3 h i3 c i
/-- all apart -/
structure Apart3 (z TI TO i1 i2 i3 a b c : Addr) : Prop where
  sep : ZipSep3 z TI TO i1 i2 i3 [i1, a] [i2, b] [i3, c]
  a1 : a ≠ i1
  b2 : b ≠ i2
  c3 : c ≠ i3
def iZip3 (K : PySem.W.Frag) (ta : TA) : TI := fun σ H R => ta σ H fun vs H1 => ∃ a b c k1 k2 k3 xs ys zs, vs = [.ref a, .ref b, .ref c] ∧ SqB K k1 H1 a xs ∧ SqB K k2 H1 b ys ∧ SqB K k3 H1 c zs ∧ R (Iz3 K k1 k2 k3 a b c) H1
end ZX
namespace DL
open PySem PySem.Spec PyProof.Rows L2
def YTrip (f g h : Nat → Option V) : Nat → Hp → V → Hp → Prop := fun i H v H' => ∃ T x y z, v = .ref T ∧ H T = none ∧ H' = upd H T (.tup [x, y, z]) ∧ f i = some x ∧ g i = some y ∧ h i = some z
def tripsD : List D → List D → List D → List D
  | x :: xs, y :: ys, z :: zs => .tup [x, y, z] :: tripsD xs ys zs
  | _, _, _ => []
section
variable {K : PySem.W.Frag} {cl : Nat → Addr}
@[simp] def mItZ3 (ms : MA) : MI := fun δ μ => match ms δ μ with
  | some ([x, y, z], μ1) => match sqOf2 x, sqOf2 y, sqOf2 z with
    | some xs, some ys, some zs => some (tripsD xs ys zs, yes, μ1)
    | _, _, _ => none
  | _ => none
end
section
variable {X : Cx} {cl : Nat → Addr} {a b c : Expr} {ms : MA} {p pos : Pos}
end
end DL
set_option Elab.async false
set_option linter.all false
set_option maxRecDepth 100000
set_option maxHeartbeats 2000000

namespace PySem.HandSPX
open PySem PySem.W PySem.Spec
section
variable {M : Model} {A : Around} {E : Value → Shared → Prop} {h : Heap} {g : Array GenState} {d : Drawn} {t : Nat} {os : OsState}
variable {nm q : Str} {C N : Addr} {bs bm bmB : List Value} {hdct : Bool} {sn : List Str} {sub : List Value} {ab : Bool} {col : Option Bool} {dd : Option Addr} {k0 k1 k2 k3 k5 : Option Value} {B newId initId : String}
end
section
variable {prog : Program} {w : World} {A : Around} {E : Value → Shared → Prop} {R : Result → Shared → Prop} {h : Heap} {g : Array GenState} {d : Drawn} {t : Nat} {os : OsState}
variable {nm q : Str} {C N : Addr} {bs bm bmB : List Value} {hdct : Bool} {sn : List Str} {sub : List Value} {ab : Bool} {col : Option Bool} {dd : Option Addr} {k0 k1 k2 k3 k5 : Option Value} {B newId initId : String}
end
end PySem.HandSPX

namespace DL
open PySem PySem.Spec PyProof.Rows L2 NdefX
/-- as ErK, with some arguments by names -/
structure ErN (P : Program) (w : World) (K : PySem.W.Frag) (mg : Str → Option Value) (base : Heap) (cl : Nat → Addr) (k c : Nat) (x : Str) (n : Nat) (l : List (Str × Nat)) (np : Nat) (ks : List Str) (is : List Nat) : Prop where
  ok : ∃ (B newId initId : String) (bm : List Value) (fI : Addr) (fd : FuncData) (ps : List Str), EB B newId initId bm ∧ ErC K newId bm (cl c) ∧ PySem.W.findIn K (.ref (cl c)) "__init__" = some (some (.ref fI)) ∧ PySem.W.typeIn K (.ref fI) = some (.type "function") ∧
    FnOk P w K mg base CX0 k fI fd ps (spEr (cl c) (n + 1) l) ∧ mg x = some (.ref (cl c)) ∧ KBn K fd ps (np + 1) ks (fun us ws => pick (0 :: is.map (· + 1)) (us ++ ws)) (fun us ws => pick (0 :: is.map (· + 1)) (us ++ ws))
  il : ∀ p ∈ l, p.2 < n
  sm : np ≤ 100
section
variable {X : Cx} {pins : List (Addr × Obj)} {σ : L2.St} {H1 : Hp} {s1 : Shared} {cl : Nat → Addr} {k c n np : Nat} {x : Str} {l : List (Str × Nat)} {iis : List Int} {us ws : List Value} {vs zs : List V} {ks : List Str} {is : List Nat}
end
section
variable {X : Cx} {cl : Nat → Addr} {k j c n np nk : Nat} {x : Str} {l : List (Str × Nat)} {e : Expr} {es : List Expr} {kws : List Keyword} {ta tk : TA} {ms mk : MA} {p pos : Pos} {ks : List Str} {is : List Nat}
def tErV (cl : Nat → Addr) (c n np nk : Nat) (l : List (Str × Nat)) (is : List Nat) (ta tk : TA) : TE := fun σ H Q => ta σ H fun vs H1 => tk σ H1 fun zs H2 => vs.length = np ∧ zs.length = nk ∧ ∃ iis : List Int, pick is (vs ++ zs) = iis.map V.int ∧ (∀ i ∈ iis, i.natAbs < 2 ^ 64) ∧ iis.length = n ∧
  (putW (iis.map V.int) l [] = [] → ∀ a, H2 a = none → Q (.ref a) (upd H2 a (exv a (cl c) none))) ∧ ∀ a d, H2 a = none → H2 d = none → d ≠ a → Q (.ref a) (upd (upd H2 d (.xd (putW (iis.map V.int) l []))) a (exv a (cl c) (some d)))
@[simp] def mErr (c n : Nat) (l : List (Str × Nat)) (np nk : Nat) (is : List Nat) (ms mk : MA) : ME := fun δ μ => match ms δ μ with
  | none => none
  | some (rs, μ1) => match mk δ μ1 with
    | none => none
    | some (zs, μ2) => if rs.length = np ∧ zs.length = nk then match mkEr c n l (pick is (rs ++ zs)) with
        | some d => some (.dat d, μ2)
        | none => none
      else none
end
end DL
set_option Elab.async false
set_option linter.all false
set_option maxRecDepth 100000
set_option maxHeartbeats 2000000

namespace DL
open PySem PySem.Spec PyProof.Rows L2 NdefX
structure FOX (P : Program) (w : World) (K : PySem.W.Frag) (mg : Str → Option Value) (base : Heap) (cl : Nat → Addr) (k c : Nat) (op : Operator) (m : MFX) : Prop where
  sf : PySem.W.selfFirst K (cl c) = true
  ok : ∃ g, PySem.W.findIn K (.ref (cl c)) (PySem.dunder op.info.2) = some (some (.ref g)) ∧ PySem.W.isFn K (.ref g) = true ∧ FAX P w K mg base cl k g 2 m 2 [] [0, 1]
section
variable {X : Cx} {cl : Nat → Addr} {W : WX} {a b : Expr} {ta tb : TE} {ma mb : ME} {pos : Pos} {C g : Addr} {n k j c : Nat} {mf : MFX} {sp : Sp} {E : L2.St → XK} {op : Operator}
def tBinX (C : Addr) (sp : Sp) (E : L2.St → XK) (ta tb : TE) : TE := fun σ H Q => ta σ H fun x H1 => tb σ H1 fun y H2 => ∃ a dx vs b dy ws, x = .ref a ∧ y = .ref b ∧ SlX.Slt H2 a C dx vs ∧ SlX.Slt H2 b C dy ws ∧ sp [x, y] H2 Q (E σ)
theorem pe_binX {CX : CXT} {fd : FuncData} {ps : List Str} (hc : PySem.W.selfFirst X.K C = true) (hs : PySem.W.findIn X.K (.ref C) (PySem.dunder op.info.2) = some (some (.ref g))) (hf : PySem.W.isFn X.K (.ref g) = true) (F : FnOk X.prog X.w X.K X.mg X.base CX k g fd ps sp)
    (hb0 : KBn X.K fd ps 2 [] (fun us ws => pick [0, 1] (us ++ ws)) (fun us ws => pick [0, 1] (us ++ ws))) (hr : Room k X.A) (hx : ∀ σ, PassesAt CX X σ (E σ)) (ha : PE X a ta) (hb : PE X b tb) : PE X (.BinOp a op b pos) (tBinX C sp E ta tb) := by
  refine ⟨fun pins s σ H Q I h => ?_⟩
  refine wpAny_BinOp (binT ha hb I h fun v u s2 x y H2 I2 rx ry q => ?_)
  obtain ⟨a, dx, vs, b, dy, ws, rfl, rfl, ha, hb, q⟩ := q
  cases (show v = Value.ref a from rx)
  cases (show u = Value.ref b from ry)
  obtain ⟨sl, od, _, J, _⟩ := SlX.slt_inst I2 ha
  obtain ⟨sl', od', _, J', _⟩ := SlX.slt_inst I2 hb
  obtain ⟨m, hF⟩ := I2.fr
  refine PySem.W.binop_K hF I2.ok.mod.kin J J'.type hc hs hf ?_
  have r := run_fnND (us := [.ref a, .ref b]) (ws := []) (vs := [.ref a, .ref b]) (zs := []) F hr hb0 (hx σ) I2 (.cons rfl (.cons rfl .nil)) .nil rfl rfl q
  refine wpAny_mono r (fun w s' z => ?_) fun _ _ x => x
  obtain ⟨z', H', I', rz, qz⟩ := z
  exact SlX.cmpback rz ⟨z', H', I', rz, qz⟩
@[simp] def mBinX (c : Nat) (f : MFX) (ma mb : ME) : MEX := fun δ μ => match ma δ μ with
  | some (.dat (.ins c1 xs), μ1) => if c1 = c then match mb δ μ1 with
      | some (.dat (.ins c2 ys), μ2) => if c2 = c then f [.dat (.ins c1 xs), .dat (.ins c2 ys)] μ2 else none
      | _ => none
    else none
  | _ => none
theorem se_binX (tk : Takes X W) (S : FOX X.prog X.w X.K X.mg X.base cl k c op mf) (hr : Room j X.A) (hk : k ≤ j) (ha : SE X cl a ma) (hb : SE X cl b mb) : SEX X cl W (.BinOp a op b pos) (mBinX c (callE mf) ma mb) := by
  obtain ⟨sf, g, h1, h2, ⟨⟨fd, ps, F, b0⟩, kp, ar⟩⟩ := S
  refine PE.weak (pe_binX sf h1 h2 (F.imp fun vs H Q E h => callE_sp h) b0 (hr.mono hk) (passAt tk) ha hb) fun σ H Q ⟨F, α, δ, μ, z, C, Ee, hm, kk⟩ => ?_
  unfold mBinX at hm
  split at hm
  · rename_i c1 xs μ1 e1
    split at hm
    · rename_i hc1
      split at hm
      · rename_i c2 ys μ2 e2
        split at hm
        · rename_i hc2
          subst hc1
          subst hc2
          refine ⟨F, α, δ, μ, _, _, C, Ee, e1, fun v F1 H1 v1 d1 q1 => ?_⟩
          refine ⟨F1, α, δ, μ1, _, _, d1, Ee.step v1, e2, fun u F2 H2 v2 d2 q2 => ?_⟩
          have q1' : Rep X.K cl F2 v (.ins c2 xs) := Rep.mono v2.ff q1
          have q2' : Rep X.K cl F2 u (.ins c2 ys) := q2
          have hsp : spMX X.K cl 2 (callE mf) [v, u] H2 Q (WE W σ) := ⟨F2, α, μ2, [.dat (.ins c2 xs), .dat (.ins c2 ys)], z, rfl, d2, .cons q1' (.cons q2' .nil), hm, kk.pre (v1.trans v2)⟩
          cases q1' with
          | ins hs1 hq1 hr1 =>
            cases q2' with
            | ins hs2 hq2 hr2 => exact ⟨_, _, _, _, _, _, rfl, rfl, Same.slt d2.sub hs1, Same.slt d2.sub hs2, hsp⟩
        · cases hm
      · cases hm
    · cases hm
  · cases hm
end
end DL
set_option Elab.async false
set_option linter.all false
set_option maxRecDepth 100000
set_option maxHeartbeats 4000000
namespace NS
open PySem PySem.Spec PyProof.Rows L2 DL
def topS (i : Nat) : Stmt := PySem.Challenge.pw_nearsame_k49_finer_and_common_grids.main.body.getD i (.Pass ⟨0, 0, 0, 0⟩)
abbrev s_law_cells : Stmt := topS 9
@[reducible] def m_law_cells_0 : MS := (mSetC 2 (mOr (mCb fList (mCons (mSl (mVar 0) mNo (mSo (mVar 1))) mNil)) (mLst (mCons (mC (.int 0)) mNil))))
@[reducible] def m_law_cells_1 : MS := (mSet 5 (mOp fMod (mCb fInt (mCons (mVar 3) mNil)) (mVar 1)))
@[reducible] def m_law_cells_2 : MS := (mPut (mVar 2) (mVar 5) (mOp fAdd (mOp fIx (mVar 2) (mVar 5)) (mOp fMul (mVar 4) (mOp fAdd (mVar 3) (mC (.int 2))))))
@[reducible] def m_law_cells_b3 : MS := (mSeq m_law_cells_1
  m_law_cells_2)
@[reducible] def m_law_cells_4 : MS := (mFor (mItE (mCons (mSl (mVar 0) (mSo (mVar 1)) (mSo (mC (.int 63)))) mNil)) (tgPair 3 4) m_law_cells_b3)
@[reducible] def m_law_cells_5 : MS := (mRet (mVar 2))
theorem sc_law_cells : FnScope ["_law_script", "_law_most_so", "_law_slots_so", "_law_k", "_law_cell", "_law_at_so"] ["_law_script", "_law_most_so"] (defScope s_law_cells) := ⟨rfl, rfl, rfl, by decide +kernel, rfl, by decide +kernel, by decide +kernel⟩
def m_law_cells : MF := mDef 2 6
  (mSeq m_law_cells_0
  (mSeq m_law_cells_4
  m_law_cells_5))
abbrev s_Grid_init : Stmt := inClass (topS 5) 1
theorem sc_Grid_init : FnScope ["self", "width", "start"] ["self", "width", "start"] (defScope s_Grid_init) := ⟨rfl, rfl, rfl, by decide +kernel, rfl, by decide +kernel, by decide +kernel⟩
def m_Grid_init : MIn := mInit 3 3 (mbTup [1, 0] (mTup (mCons (mVar 1) (mCons (mOp fMod (mCb fInt (mCons (mVar 2) mNil)) (mVar 1)) mNil))))
abbrev s_divisor : Stmt := topS 4
@[reducible] def m_divisor_0 : MS := (mPar false false 0 1 (mVar 1) (mOp fMod (mCb fInt (mCons (mVar 0) mNil)) (mVar 1)))
@[reducible] def m_divisor_c1 : MT := (mB (mOp fGtI (mVar 1) (mC (.int 0))))
@[reducible] def m_divisor_2 : MS := (wh m_divisor_c1 m_divisor_0 1000)
@[reducible] def m_divisor_3 : MS := (mRet (mVar 0))
theorem sc_divisor : FnScope ["one", "other"] ["one", "other"] (defScope s_divisor) := ⟨rfl, rfl, rfl, by decide +kernel, rfl, by decide +kernel, by decide +kernel⟩
def m_divisor : MF := mDef 2 2
  (mSeq m_divisor_2
  m_divisor_3)
abbrev s_Grid_and : Stmt := inClass (topS 5) 14
@[reducible] def m_Grid_and_0 : MS := (mSet 2 (mCall (callX m_divisor) (mCons (mCall (callX m_divisor) (mCons (mAttr 0 1 (mVar 0)) (mCons (mAttr 0 1 (mVar 1)) mNil))) (mCons (mCb fAbs (mCons (mOp fSub (mAttr 0 0 (mVar 0)) (mAttr 0 0 (mVar 1))) mNil)) mNil))))
@[reducible] def m_Grid_and_1 : MS := (mRet (mMake 0 m_Grid_init (mCons (mVar 2) (mCons (mAttr 0 0 (mVar 0)) mNil))))
theorem sc_Grid_and : FnScope ["self", "other", "width"] ["self", "other"] (defScope s_Grid_and) := ⟨rfl, rfl, rfl, by decide +kernel, rfl, by decide +kernel, by decide +kernel⟩
def m_Grid_and : MF := mDef 2 3
  (mSeq m_Grid_and_0
  m_Grid_and_1)
abbrev s_Grid_or : Stmt := inClass (topS 5) 15
@[reducible] def m_Grid_or_0 : MS := (mSet 2 (mCall (callX m_divisor) (mCons (mAttr 0 1 (mVar 0)) (mCons (mAttr 0 1 (mVar 1)) mNil))))
@[reducible] def m_Grid_or_1 : MS := mNever
@[reducible] def m_Grid_or_2 : MS := (mIfS (mB (mOp (fEq true) (mOp fMod (mCb fInt (mCons (mOp fSub (mAttr 0 0 (mVar 0)) (mAttr 0 0 (mVar 1))) mNil)) (mVar 2)) (mC (.int 0)))) m_Grid_or_1 mNx)
@[reducible] def m_Grid_or_e3 : ME := (mOp fAdd (mAttr 0 0 (mVar 0)) (mOp fMul (mVar 4) (mAttr 0 1 (mVar 0))))
@[reducible] def m_Grid_or_4 : MS := (mSet 3 (mLc (mItR1 (mCons (mAttr 0 1 (mVar 1)) mNil)) (tgName 4) mYes m_Grid_or_e3 [4]))
@[reducible] def m_Grid_or_c5 : MT := (mB (mOp (fEq false) (mOp fMod (mCb fInt (mCons (mOp fSub (mVar 6) (mAttr 0 0 (mVar 1))) mNil)) (mAttr 0 1 (mVar 1))) (mC (.int 0))))
@[reducible] def m_Grid_or_e6 : ME := (mVar 6)
@[reducible] def m_Grid_or_7 : MS := (mSet 5 (mLc (mIt (mVar 3)) (tgName 6) m_Grid_or_c5 m_Grid_or_e6 [6]))
@[reducible] def m_Grid_or_8 : MS := (mRet (mMake 0 m_Grid_init (mCons (mOp fMul (mOp fDiv (mAttr 0 1 (mVar 0)) (mVar 2)) (mAttr 0 1 (mVar 1))) (mCons (mOp fIx (mVar 5) (mC (.int 0))) mNil))))
theorem sc_Grid_or : FnScope ["self", "other", "common", "starts", "place", "meeting", "start"] ["self", "other"] (defScope s_Grid_or) := ⟨rfl, rfl, rfl, by decide +kernel, rfl, by decide +kernel, by decide +kernel⟩
def m_Grid_or : MF := mDef 2 7
  (mSeq m_Grid_or_0
  (mSeq m_Grid_or_2
  (mSeq m_Grid_or_4
  (mSeq m_Grid_or_7
  m_Grid_or_8))))
abbrev s_Grid_is_same : Stmt := inClass (topS 5) 8
@[reducible] def m_Grid_is_same_0 : MS := (mRet (mAnd (mOp (fEq false) (mAttr 0 1 (mVar 0)) (mAttr 0 1 (mVar 1))) (mOp (fEq false) (mAttr 0 0 (mVar 0)) (mAttr 0 0 (mVar 1)))))
theorem sc_Grid_is_same : FnScope ["self", "other"] ["self", "other"] (defScope s_Grid_is_same) := ⟨rfl, rfl, rfl, by decide +kernel, rfl, by decide +kernel, by decide +kernel⟩
def m_Grid_is_same : MF := mDef 2 2
  m_Grid_is_same_0
abbrev s_Grid_eq : Stmt := inClass (topS 5) 9
@[reducible] def m_Grid_eq_0 : MS := (mRet (mAnd (mIsiO 1 0 (mVar 1)) (mMeth 0 (callX m_Grid_is_same) (mVar 0) (mCons (mVar 1) mNil))))
theorem sc_Grid_eq : FnScope ["self", "other"] ["self", "other"] (defScope s_Grid_eq) := ⟨rfl, rfl, rfl, by decide +kernel, rfl, by decide +kernel, by decide +kernel⟩
def m_Grid_eq : MF := mDef 2 2
  m_Grid_eq_0
abbrev s_Grid_starts_at : Stmt := inClass (topS 5) 6
@[reducible] def m_Grid_starts_at_0 : MS := (mRet (mOp (fEq false) (mOp fMod (mCb fInt (mCons (mOp fSub (mVar 1) (mAttr 0 0 (mVar 0))) mNil)) (mAttr 0 1 (mVar 0))) (mC (.int 0))))
theorem sc_Grid_starts_at : FnScope ["self", "number"] ["self", "number"] (defScope s_Grid_starts_at) := ⟨rfl, rfl, rfl, by decide +kernel, rfl, by decide +kernel, by decide +kernel⟩
def m_Grid_starts_at : MF := mDef 2 2
  m_Grid_starts_at_0
abbrev s_Grid_is_finer : Stmt := inClass (topS 5) 7
@[reducible] def m_Grid_is_finer_0 : MS := (mRet (mAnd (mOp (fEq false) (mOp fMod (mCb fInt (mCons (mAttr 0 1 (mVar 1)) mNil)) (mAttr 0 1 (mVar 0))) (mC (.int 0))) (mMeth 0 (callX m_Grid_starts_at) (mVar 0) (mCons (mAttr 0 0 (mVar 1)) mNil))))
theorem sc_Grid_is_finer : FnScope ["self", "other"] ["self", "other"] (defScope s_Grid_is_finer) := ⟨rfl, rfl, rfl, by decide +kernel, rfl, by decide +kernel, by decide +kernel⟩
def m_Grid_is_finer : MF := mDef 2 2
  m_Grid_is_finer_0
abbrev s_Grid_le : Stmt := inClass (topS 5) 10
@[reducible] def m_Grid_le_0 : MS := (mRet (mMeth 0 (callX m_Grid_is_finer) (mVar 0) (mCons (mVar 1) mNil)))
theorem sc_Grid_le : FnScope ["self", "other"] ["self", "other"] (defScope s_Grid_le) := ⟨rfl, rfl, rfl, by decide +kernel, rfl, by decide +kernel, by decide +kernel⟩
def m_Grid_le : MF := mDef 2 2
  m_Grid_le_0
abbrev s_Grid_ge : Stmt := inClass (topS 5) 12
@[reducible] def m_Grid_ge_0 : MS := (mRet (mAnd (mOp (fEq false) (mOp fMod (mCb fInt (mCons (mAttr 0 1 (mVar 0)) mNil)) (mAttr 0 1 (mVar 1))) (mC (.int 0))) (mOp (fEq false) (mOp fMod (mCb fInt (mCons (mOp fSub (mAttr 0 0 (mVar 0)) (mAttr 0 0 (mVar 1))) mNil)) (mAttr 0 1 (mVar 1))) (mC (.int 0)))))
theorem sc_Grid_ge : FnScope ["self", "other"] ["self", "other"] (defScope s_Grid_ge) := ⟨rfl, rfl, rfl, by decide +kernel, rfl, by decide +kernel, by decide +kernel⟩
def m_Grid_ge : MF := mDef 2 2
  m_Grid_ge_0
abbrev s_Grid_gt : Stmt := inClass (topS 5) 13
@[reducible] def m_Grid_gt_0 : MS := (mSet 2 (mAnd (mOp (fEq false) (mOp fMod (mCb fInt (mCons (mAttr 0 1 (mVar 0)) mNil)) (mAttr 0 1 (mVar 1))) (mC (.int 0))) (mOp (fEq false) (mOp fMod (mCb fInt (mCons (mOp fSub (mAttr 0 0 (mVar 0)) (mAttr 0 0 (mVar 1))) mNil)) (mAttr 0 1 (mVar 1))) (mC (.int 0)))))
@[reducible] def m_Grid_gt_1 : MS := (mRet (mAnd (mVar 2) (mNot (mMeth 0 (callX m_Grid_is_same) (mVar 0) (mCons (mVar 1) mNil)))))
theorem sc_Grid_gt : FnScope ["self", "other", "wide"] ["self", "other"] (defScope s_Grid_gt) := ⟨rfl, rfl, rfl, by decide +kernel, rfl, by decide +kernel, by decide +kernel⟩
def m_Grid_gt : MF := mDef 2 3
  (mSeq m_Grid_gt_0
  m_Grid_gt_1)
abbrev s_Grid_lt : Stmt := inClass (topS 5) 11
@[reducible] def m_Grid_lt_0 : MS := (mRet (mAnd (mMeth 0 (callX m_Grid_is_finer) (mVar 0) (mCons (mVar 1) mNil)) (mNot (mMeth 0 (callX m_Grid_is_same) (mVar 0) (mCons (mVar 1) mNil)))))
theorem sc_Grid_lt : FnScope ["self", "other"] ["self", "other"] (defScope s_Grid_lt) := ⟨rfl, rfl, rfl, by decide +kernel, rfl, by decide +kernel, by decide +kernel⟩
def m_Grid_lt : MF := mDef 2 2
  m_Grid_lt_0
abbrev s_er_NoGrid : Stmt := inClass (topS 2) 0
abbrev s_XGrid_or : Stmt := inClass (topS 5) 15
@[reducible] def m_XGrid_or_0 : MS := (mSet 2 (mCall (callX m_divisor) (mCons (mAttr 0 1 (mVar 0)) (mCons (mAttr 0 1 (mVar 1)) mNil))))
@[reducible] def m_XGrid_or_1 : MSX := (mRaise 900 1 [("common", 0)] (mCons (mVar 2) mNil))
@[reducible] def m_XGrid_or_2 : MSX := (mIfX (mB (mOp (fEq true) (mOp fMod (mCb fInt (mCons (mOp fSub (mAttr 0 0 (mVar 0)) (mAttr 0 0 (mVar 1))) mNil)) (mVar 2)) (mC (.int 0)))) m_XGrid_or_1 (lft mNx))
@[reducible] def m_XGrid_or_e3 : ME := (mOp fAdd (mAttr 0 0 (mVar 0)) (mOp fMul (mVar 4) (mAttr 0 1 (mVar 0))))
@[reducible] def m_XGrid_or_4 : MS := (mSet 3 (mLc (mItR1 (mCons (mAttr 0 1 (mVar 1)) mNil)) (tgName 4) mYes m_XGrid_or_e3 [4]))
@[reducible] def m_XGrid_or_c5 : MT := (mB (mOp (fEq false) (mOp fMod (mCb fInt (mCons (mOp fSub (mVar 6) (mAttr 0 0 (mVar 1))) mNil)) (mAttr 0 1 (mVar 1))) (mC (.int 0))))
@[reducible] def m_XGrid_or_e6 : ME := (mVar 6)
@[reducible] def m_XGrid_or_7 : MS := (mSet 5 (mLc (mIt (mVar 3)) (tgName 6) m_XGrid_or_c5 m_XGrid_or_e6 [6]))
@[reducible] def m_XGrid_or_8 : MS := (mRet (mMake 0 m_Grid_init (mCons (mOp fMul (mOp fDiv (mAttr 0 1 (mVar 0)) (mVar 2)) (mAttr 0 1 (mVar 1))) (mCons (mOp fIx (mVar 5) (mC (.int 0))) mNil))))
theorem sc_XGrid_or : FnScope ["self", "other", "common", "starts", "place", "meeting", "start"] ["self", "other"] (defScope s_XGrid_or) := ⟨rfl, rfl, rfl, by decide +kernel, rfl, by decide +kernel, by decide +kernel⟩
def m_XGrid_or : MFX := mDefX 2 7
  (mSeqX (lft m_XGrid_or_0)
  (mSeqX m_XGrid_or_2
  (lft (mSeq m_XGrid_or_4
  (mSeq m_XGrid_or_7
  m_XGrid_or_8)))))
abbrev s_law_joined : Stmt := topS 16
@[reducible] def m_law_joined_0 : MS := (mPar false false 2 3 (mC .non) (mC .non))
@[reducible] def m_law_joined_1 : MS := (mTryK [900] 4 2 (mSetX 3 (mBinX 0 (callE m_XGrid_or) (mVar 0) (mVar 1))))
@[reducible] def m_law_joined_2 : MS := (mRet (mTup (mCons (mAttr 0 1 (mVar 3)) (mCons (mAttr 0 0 (mVar 3)) mNil))))
@[reducible] def m_law_joined_3 : MS := (mIfS (mB (mOp (fIsN false) (mVar 2) (mC .non))) m_law_joined_2 mNx)
@[reducible] def m_law_joined_4 : MS := (mRet (mIf (mtAnd (mB (mIsX [(900, true)] (mVar 2))) (mtNot (mB (mIsX [(900, false)] (mVar 2))))) (mLst (mCons (mFldX [900] "common" (mVar 2)) mNil)) (mC .non)))
theorem sc_law_joined : FnScope ["_law_mine", "_law_its", "_law_caught", "_law_got", "error"] ["_law_mine", "_law_its"] (defScope s_law_joined) := ⟨rfl, rfl, rfl, by decide +kernel, rfl, by decide +kernel, by decide +kernel⟩
def m_law_joined : MF := mDef 2 5
  (mSeq m_law_joined_0
  (mSeq m_law_joined_1
  (mSeq m_law_joined_3
  m_law_joined_4)))
abbrev s_law_same : Stmt := topS 11
@[reducible] def m_law_same_0 (r : MF) : MS := (mRet (mC (.bl false)))
@[reducible] def m_law_same_1 (r : MF) : MS := (mIfS (mtOr (mB (mOp (fEq true) (mIsi "list" (mVar 0)) (mIsi "list" (mVar 1)))) (mB (mOp (fEq true) (mIsi "tuple" (mVar 0)) (mIsi "tuple" (mVar 1))))) (m_law_same_0 r) mNx)
@[reducible] def m_law_same_e2 (r : MF) : ME := (mCall (callX r) (mCons (mVar 2) (mCons (mVar 3) mNil)))
@[reducible] def m_law_same_3 (r : MF) : MS := (mRet (mAnd (mOp (fEq false) (mCb fLen (mCons (mVar 0) mNil)) (mCb fLen (mCons (mVar 1) mNil))) (mCb fAll (mCons (mLc (mItZ (mCons (mVar 0) (mCons (mVar 1) mNil))) (tgPair 2 3) mYes (m_law_same_e2 r) [2, 3]) mNil))))
@[reducible] def m_law_same_4 (r : MF) : MS := (mIfS (mB (mIsi2 "list" "tuple" (mVar 1))) (mSeq (m_law_same_1 r)
  (m_law_same_3 r)) mNx)
@[reducible] def m_law_same_5 (r : MF) : MS := (mRet (mAnd (mOp (fEq false) (mVar 0) (mVar 1)) (mAnd (mOp (fEq false) (mIsi "bool" (mVar 0)) (mIsi "bool" (mVar 1))) (mOp (fEq false) (mOp (fIsN false) (mVar 0) (mC .non)) (mOp (fIsN false) (mVar 1) (mC .non))))))
@[reducible] def m_law_same_6 (r : MF) : MS := (mIfS (mtOr (mB (mOp (fIsN false) (mVar 1) (mC .non))) (mB (mIsi2 "bool" "str" (mVar 1)))) (m_law_same_5 r) mNx)
@[reducible] def m_law_same_7 (r : MF) : MS := (mRet (mAnd (mIsi "int" (mVar 0)) (mAnd (mNot (mIsi "bool" (mVar 0))) (mOp (fEq false) (mVar 0) (mVar 1)))))
theorem sc_law_same : FnScope ["_law_got", "_law_due", "_law_mine", "_law_its"] ["_law_got", "_law_due"] (defScope s_law_same) := ⟨rfl, rfl, rfl, by decide +kernel, rfl, by decide +kernel, by decide +kernel⟩
def m_law_same : Nat → MF
  | 0 => fun _ _ => none
  | j + 1 => mDef 2 4 (mSeq (m_law_same_4 (m_law_same j))
      (mSeq (m_law_same_6 (m_law_same j))
      (m_law_same_7 (m_law_same j))))
abbrev s_law_hand_right : Stmt := topS 18
@[reducible] def m_law_hand_right_0 : MS := (mPar false false 0 1 (mMakeD 0 m_Grid_init [.int 0] (mCons (mC (.int 4)) mNil)) (mMake 0 m_Grid_init (mCons (mC (.int 6)) (mCons (mC (.int 2)) mNil))))
@[reducible] def m_law_hand_right_1 : MS := (mSet 2 (mLst (mCons (mAttr 0 1 (mBin 0 (callX m_Grid_or) (mVar 0) (mVar 1))) (mCons (mAttr 0 0 (mBin 0 (callX m_Grid_or) (mVar 0) (mVar 1))) (mCons (mAttr 0 1 (mBin 0 (callX m_Grid_and) (mVar 0) (mVar 1))) (mCons (mAttr 0 0 (mBin 0 (callX m_Grid_and) (mVar 0) (mVar 1))) mNil))))))
@[reducible] def m_law_hand_right_2 : MS := (mSet 2 (mOp fAdd (mVar 2) (mLst (mCons (mOpG (gOr (gB fLeI) (gOr (gCm 0 1 (callX m_Grid_le)) (gNI 0 (callX m_Grid_ge)))) (mVar 0) (mVar 1)) (mCons (mOpG (gOr (gB (fEq false)) (gOr (gCm 0 1 (callX m_Grid_eq)) (gNI 0 (callX m_Grid_eq)))) (mBin 0 (callX m_Grid_and) (mVar 0) (mVar 0)) (mVar 0)) mNil)))))
@[reducible] def m_law_hand_right_3 : MS := (mSet 2 (mOp fAdd (mVar 2) (mLst (mCons (mOpG (gOr (gB fLeI) (gOr (gCm 0 1 (callX m_Grid_le)) (gNI 0 (callX m_Grid_ge)))) (mMakeD 0 m_Grid_init [.int 0] (mCons (mC (.int 2)) mNil)) (mMake 0 m_Grid_init (mCons (mC (.int 6)) (mCons (mC (.int 4)) mNil)))) (mCons (mOpG (gOr (gB fLt) (gOr (gCm 0 1 (callX m_Grid_lt)) (gNI 0 (callX m_Grid_gt)))) (mMakeD 0 m_Grid_init [.int 0] (mCons (mC (.int 2)) mNil)) (mMake 0 m_Grid_init (mCons (mC (.int 2)) (mCons (mC (.int 4)) mNil)))) (mCons (mOpG (gOr (gB fLeI) (gOr (gCm 0 1 (callX m_Grid_le)) (gNI 0 (callX m_Grid_ge)))) (mMakeD 0 m_Grid_init [.int 0] (mCons (mC (.int 1)) mNil)) (mVar 0)) (mCons (mOpG (gOr (gB fLeI) (gOr (gCm 0 1 (callX m_Grid_le)) (gNI 0 (callX m_Grid_ge)))) (mVar 0) (mMakeD 0 m_Grid_init [.int 0] (mCons (mC (.int 1)) mNil))) (mCons (mOpG (gOr (gB fGtI) (gOr (gCm 0 1 (callX m_Grid_gt)) (gNI 0 (callX m_Grid_lt)))) (mVar 0) (mMakeD 0 m_Grid_init [.int 0] (mCons (mC (.int 2)) mNil))) mNil))))))))
@[reducible] def m_law_hand_right_4 : MS := (mSet 3 (mLst (mCons (mC (.int 12)) (mCons (mC (.int 8)) (mCons (mC (.int 2)) (mCons (mC (.int 0)) (mCons (mC (.bl false)) (mCons (mC (.bl true)) (mCons (mC (.bl true)) (mCons (mC (.bl false)) (mCons (mC (.bl true)) (mCons (mC (.bl false)) (mCons (mC (.bl true)) mNil)))))))))))))
@[reducible] def m_law_hand_right_5 : MS := (mSet 2 (mOp fAdd (mVar 2) (mLst (mCons (mCall (callX m_law_joined) (mCons (mVar 0) (mCons (mMake 0 m_Grid_init (mCons (mC (.int 6)) (mCons (mC (.int 1)) mNil))) mNil))) (mCons (mCall (callX m_law_joined) (mCons (mMakeD 0 m_Grid_init [.int 0] (mCons (mC (.int 3)) mNil)) (mCons (mMake 0 m_Grid_init (mCons (mC (.int 5)) (mCons (mC (.int 1)) mNil))) mNil))) (mCons (mAttr 0 1 (mBin 0 (callX m_Grid_and) (mVar 0) (mMake 0 m_Grid_init (mCons (mC (.int 6)) (mCons (mC (.int 1)) mNil))))) mNil))))))
@[reducible] def m_law_hand_right_6 : MS := (mSet 3 (mOp fAdd (mVar 3) (mLst (mCons (mLst (mCons (mC (.int 2)) mNil)) (mCons (mTup (mCons (mC (.int 15)) (mCons (mC (.int 6)) mNil))) (mCons (mC (.int 1)) mNil))))))
@[reducible] def m_law_hand_right_7 : MS := (mSet 2 (mOp fAdd (mVar 2) (mLst (mCons (mAttr 0 1 (mBin 0 (callX m_Grid_or) (mMake 0 m_Grid_init (mCons (mC (.int 40)) (mCons (mC (.int 39)) mNil))) (mMake 0 m_Grid_init (mCons (mC (.int 39)) (mCons (mC (.int 38)) mNil))))) (mCons (mOpG (gOr (gB fLeI) (gOr (gCm 0 1 (callX m_Grid_le)) (gNI 0 (callX m_Grid_ge)))) (mMake 0 m_Grid_init (mCons (mC (.int 40)) (mCons (mC (.int 39)) mNil))) (mBin 0 (callX m_Grid_or) (mMake 0 m_Grid_init (mCons (mC (.int 40)) (mCons (mC (.int 39)) mNil))) (mMake 0 m_Grid_init (mCons (mC (.int 39)) (mCons (mC (.int 38)) mNil))))) mNil)))))
@[reducible] def m_law_hand_right_8 : MS := (mRet (mCall (callX (m_law_same 5)) (mCons (mVar 2) (mCons (mOp fAdd (mVar 3) (mLst (mCons (mC (.int 1560)) (mCons (mC (.bl true)) mNil)))) mNil))))
theorem sc_law_hand_right : FnScope ["_law_four", "_law_six", "_law_got", "_law_due"] [] (defScope s_law_hand_right) := ⟨rfl, rfl, rfl, by decide +kernel, rfl, by decide +kernel, by decide +kernel⟩
def m_law_hand_right : MF := mDef 0 4
  (mSeq m_law_hand_right_0
  (mSeq m_law_hand_right_1
  (mSeq m_law_hand_right_2
  (mSeq m_law_hand_right_3
  (mSeq m_law_hand_right_4
  (mSeq m_law_hand_right_5
  (mSeq m_law_hand_right_6
  (mSeq m_law_hand_right_7
  m_law_hand_right_8))))))))
abbrev s_law_take : Stmt := topS 8
@[reducible] def m_law_take_0 : MS := (mSet 2 (mOp fMod (mCb fInt (mCons (mOp fIx (mVar 0) (mC (.int 0))) mNil)) (mVar 1)))
@[reducible] def m_law_take_1 : MS := (mPut (mVar 0) (mC (.int 0)) (mOp fDiv (mOp fIx (mVar 0) (mC (.int 0))) (mVar 1)))
@[reducible] def m_law_take_2 : MS := (mRet (mVar 2))
@[reducible] def m_law_take_3 : MS := (mIfS (mB (mOp fGtI (mOp fIx (mVar 0) (mC (.int 0))) (mC (.int 0)))) (mSeq m_law_take_0
  (mSeq m_law_take_1
  m_law_take_2)) mNx)
@[reducible] def m_law_take_4 : MS := (mPut (mVar 0) (mC (.int 2)) (mOp fAdd (mOp fIx (mVar 0) (mC (.int 2))) (mC (.int 1))))
@[reducible] def m_law_take_5 : MS := (mSet 3 (mOp fMod (mCb fInt (mCons (mOp fMul (mOp fAdd (mOp fIx (mVar 0) (mC (.int 1))) (mOp fMul (mC (.int 48271)) (mOp fIx (mVar 0) (mC (.int 2))))) (mOp fAdd (mC (.int 39373)) (mOp fIx (mVar 0) (mC (.int 2))))) mNil)) (mC (.int 2147483647))))
@[reducible] def m_law_take_6 : MS := (mSet 4 (mOp fAdd (mOp fMod (mCb fInt (mCons (mVar 3) mNil)) (mC (.int 40009))) (mC (.int 7))))
@[reducible] def m_law_take_7 : MS := (mSet 5 (mOp fMod (mCb fInt (mCons (mOp fMul (mOp fAdd (mOp fAdd (mVar 3) (mOp fIx (mVar 0) (mC (.int 2)))) (mOp fDiv (mOp fIx (mVar 0) (mC (.int 1))) (mC (.int 1000003)))) (mVar 4)) mNil)) (mC (.int 2147483629))))
@[reducible] def m_law_take_8 : MS := (mRet (mOp fMod (mCb fInt (mCons (mOp fDiv (mOp fMod (mCb fInt (mCons (mOp fAdd (mOp fMul (mVar 5) (mC (.int 48271))) (mVar 3)) mNil)) (mC (.int 2147483587))) (mC (.int 64))) mNil)) (mVar 1)))
theorem sc_law_take : FnScope ["_law_box_here", "_law_below", "_law_drawn", "_law_once", "_law_far", "_law_twice"] ["_law_box_here", "_law_below"] (defScope s_law_take) := ⟨rfl, rfl, rfl, by decide +kernel, rfl, by decide +kernel, by decide +kernel⟩
def m_law_take : MF := mDef 2 6
  (mSeq m_law_take_3
  (mSeq m_law_take_4
  (mSeq m_law_take_5
  (mSeq m_law_take_6
  (mSeq m_law_take_7
  m_law_take_8)))))
abbrev s_law_of : Stmt := topS 10
@[reducible] def m_law_of_0 : MS := (mRet (mOp fIx (mVar 1) (mCall (callX m_law_take) (mCons (mVar 0) (mCons (mCb fLen (mCons (mVar 1) mNil)) mNil)))))
theorem sc_law_of : FnScope ["_law_box_here", "_law_some_so"] ["_law_box_here", "_law_some_so"] (defScope s_law_of) := ⟨rfl, rfl, rfl, by decide +kernel, rfl, by decide +kernel, by decide +kernel⟩
def m_law_of : MF := mDef 2 2
  m_law_of_0
abbrev s_law_is_finer : Stmt := topS 12
@[reducible] def m_law_is_finer_0 : MS := (mSet 3 (mOp (fEq false) (mOp fDiv (mOp fSub (mVar 2) (mOp fIx (mVar 0) (mC (.int 1)))) (mOp fIx (mVar 0) (mC (.int 0)))) (mOp fDiv (mOp fSub (mOp fAdd (mVar 2) (mC (.int 1))) (mOp fIx (mVar 0) (mC (.int 1)))) (mOp fIx (mVar 0) (mC (.int 0))))))
@[reducible] def m_law_is_finer_1 : MS := (mRet (mC (.bl false)))
@[reducible] def m_law_is_finer_2 : MS := (mIfS (mtAnd (mB (mVar 3)) (mB (mOp (fEq true) (mOp fDiv (mOp fSub (mVar 2) (mOp fIx (mVar 1) (mC (.int 1)))) (mOp fIx (mVar 1) (mC (.int 0)))) (mOp fDiv (mOp fSub (mOp fAdd (mVar 2) (mC (.int 1))) (mOp fIx (mVar 1) (mC (.int 1)))) (mOp fIx (mVar 1) (mC (.int 0))))))) m_law_is_finer_1 mNx)
@[reducible] def m_law_is_finer_b3 : MS := (mSeq m_law_is_finer_0
  m_law_is_finer_2)
@[reducible] def m_law_is_finer_4 : MS := (mFor (mItR1 (mCons (mOp fMul (mOp fIx (mVar 0) (mC (.int 0))) (mOp fIx (mVar 1) (mC (.int 0)))) mNil)) (tgName 2) m_law_is_finer_b3)
@[reducible] def m_law_is_finer_5 : MS := (mRet (mC (.bl true)))
theorem sc_law_is_finer : FnScope ["_law_mine", "_law_its", "_law_x", "_law_is_in"] ["_law_mine", "_law_its"] (defScope s_law_is_finer) := ⟨rfl, rfl, rfl, by decide +kernel, rfl, by decide +kernel, by decide +kernel⟩
def m_law_is_finer : MF := mDef 2 4
  (mSeq m_law_is_finer_4
  m_law_is_finer_5)
abbrev s_law_begins : Stmt := topS 13
@[reducible] def m_law_begins_c0 : MT := (mB (mOp (fEq true) (mOp fDiv (mOp fSub (mVar 2) (mOp fIx (mVar 0) (mC (.int 1)))) (mOp fIx (mVar 0) (mC (.int 0)))) (mOp fDiv (mOp fSub (mOp fSub (mVar 2) (mC (.int 1))) (mOp fIx (mVar 0) (mC (.int 1)))) (mOp fIx (mVar 0) (mC (.int 0))))))
@[reducible] def m_law_begins_e1 : ME := (mVar 2)
@[reducible] def m_law_begins_2 : MS := (mRet (mLc (mItR1 (mCons (mVar 1) mNil)) (tgName 2) m_law_begins_c0 m_law_begins_e1 [2]))
theorem sc_law_begins : FnScope ["_law_net", "_law_last", "_law_x"] ["_law_net", "_law_last"] (defScope s_law_begins) := ⟨rfl, rfl, rfl, by decide +kernel, rfl, by decide +kernel, by decide +kernel⟩
def m_law_begins : MF := mDef 2 3
  m_law_begins_2
abbrev s_law_narrow : Stmt := topS 14
@[reducible] def m_law_narrow_0 : MS := (mSet 2 (mOp fAdd (mCall (callX m_law_begins) (mCons (mVar 0) (mCons (mOp fMul (mOp fIx (mVar 0) (mC (.int 0))) (mOp fIx (mVar 1) (mC (.int 0)))) mNil))) (mCall (callX m_law_begins) (mCons (mVar 1) (mCons (mOp fMul (mOp fIx (mVar 0) (mC (.int 0))) (mOp fIx (mVar 1) (mC (.int 0)))) mNil)))))
@[reducible] def m_law_narrow_e1 : ME := (mOp fMod (mCb fInt (mCons (mVar 5) mNil)) (mVar 3))
@[reducible] def m_law_narrow_2 : MS := (mSet 4 (mLc (mIt (mVar 2)) (tgName 5) mYes m_law_narrow_e1 [5]))
@[reducible] def m_law_narrow_3 : MS := (mRet (mTup (mCons (mVar 3) (mCons (mOp fIx (mVar 4) (mC (.int 0))) mNil))))
@[reducible] def m_law_narrow_4 : MS := (mIfS (mB (mOp (fEq false) (mVar 4) (mOp fMulL (mLst (mCons (mOp fIx (mVar 4) (mC (.int 0))) mNil)) (mCb fLen (mCons (mVar 4) mNil))))) m_law_narrow_3 mNx)
@[reducible] def m_law_narrow_b5 : MS := (mSeq m_law_narrow_2
  m_law_narrow_4)
@[reducible] def m_law_narrow_6 : MS := (mFor (mItR3 (mCons (mCb fMin (mCons (mCb fInt (mCons (mOp fIx (mVar 0) (mC (.int 0))) mNil)) (mCons (mCb fInt (mCons (mOp fIx (mVar 1) (mC (.int 0))) mNil)) mNil))) (mCons (mC (.int 0)) (mCons (mUn (fun i => -i) (mC (.int 1))) mNil)))) (tgName 3) m_law_narrow_b5)
@[reducible] def m_law_narrow_7 : MS := (mRet (mC .non))
theorem sc_law_narrow : FnScope ["_law_mine", "_law_its", "_law_begins_here", "_law_wide_here", "_law_rest", "_law_x"] ["_law_mine", "_law_its"] (defScope s_law_narrow) := ⟨rfl, rfl, rfl, by decide +kernel, rfl, by decide +kernel, by decide +kernel⟩
def m_law_narrow : MF := mDef 2 6
  (mSeq m_law_narrow_0
  (mSeq m_law_narrow_6
  m_law_narrow_7))
abbrev s_law_wide : Stmt := topS 15
@[reducible] def m_law_wide_0 : MS := (mSet 2 (mOp fAdd (mOp fMul (mOp fMul (mC (.int 2)) (mOp fIx (mVar 0) (mC (.int 0)))) (mOp fIx (mVar 1) (mC (.int 0)))) (mC (.int 1))))
@[reducible] def m_law_wide_c1 : MT := (mB (mOp (fIn false) (mVar 4) (mCall (callX m_law_begins) (mCons (mVar 1) (mCons (mVar 2) mNil)))))
@[reducible] def m_law_wide_e2 : ME := (mVar 4)
@[reducible] def m_law_wide_3 : MS := (mSet 3 (mLc (mIt (mCall (callX m_law_begins) (mCons (mVar 0) (mCons (mVar 2) mNil)))) (tgName 4) m_law_wide_c1 m_law_wide_e2 [4]))
@[reducible] def m_law_wide_4 : MS := (mRet (mIf (mB (mOp (fEq true) (mVar 3) (mLst mNil))) (mTup (mCons (mOp fSub (mOp fIx (mVar 3) (mC (.int 1))) (mOp fIx (mVar 3) (mC (.int 0)))) (mCons (mOp fIx (mVar 3) (mC (.int 0))) mNil))) (mC .non)))
theorem sc_law_wide : FnScope ["_law_mine", "_law_its", "_law_last", "_law_both", "_law_x"] ["_law_mine", "_law_its"] (defScope s_law_wide) := ⟨rfl, rfl, rfl, by decide +kernel, rfl, by decide +kernel, by decide +kernel⟩
def m_law_wide : MF := mDef 2 5
  (mSeq m_law_wide_0
  (mSeq m_law_wide_3
  m_law_wide_4))
abbrev s_law_pair_right : Stmt := topS 17
@[reducible] def m_law_pair_right_0 : MS := (mPar false false 2 3 (mMake 0 m_Grid_init (mCons (mOp fIx (mVar 0) (mC (.int 0))) (mCons (mOp fIx (mVar 0) (mC (.int 1))) mNil))) (mMake 0 m_Grid_init (mCons (mOp fIx (mVar 1) (mC (.int 0))) (mCons (mOp fIx (mVar 1) (mC (.int 1))) mNil))))
@[reducible] def m_law_pair_right_1 : MS := (mPar false false 4 5 (mCall (callX m_law_is_finer) (mCons (mVar 0) (mCons (mVar 1) mNil))) (mCall (callX m_law_is_finer) (mCons (mVar 1) (mCons (mVar 0) mNil))))
@[reducible] def m_law_pair_right_2 : MS := (mSet 6 (mLst (mCons (mOpG (gOr (gB fLeI) (gOr (gCm 0 1 (callX m_Grid_le)) (gNI 0 (callX m_Grid_ge)))) (mVar 2) (mVar 3)) (mCons (mOpG (gOr (gB fLt) (gOr (gCm 0 1 (callX m_Grid_lt)) (gNI 0 (callX m_Grid_gt)))) (mVar 2) (mVar 3)) (mCons (mOpG (gOr (gB fGeI) (gOr (gCm 0 1 (callX m_Grid_ge)) (gNI 0 (callX m_Grid_le)))) (mVar 2) (mVar 3)) (mCons (mOpG (gOr (gB fGtI) (gOr (gCm 0 1 (callX m_Grid_gt)) (gNI 0 (callX m_Grid_lt)))) (mVar 2) (mVar 3)) (mCons (mOpG (gOr (gB (fEq false)) (gOr (gCm 0 1 (callX m_Grid_eq)) (gNI 0 (callX m_Grid_eq)))) (mVar 2) (mVar 3)) mNil)))))))
@[reducible] def m_law_pair_right_3 : MS := (mRet (mC (.bl false)))
@[reducible] def m_law_pair_right_4 : MS := (mIfS (mtNot (mB (mCall (callX (m_law_same 5)) (mCons (mVar 6) (mCons (mLst (mCons (mVar 4) (mCons (mAnd (mVar 4) (mNot (mVar 5))) (mCons (mVar 5) (mCons (mAnd (mVar 5) (mNot (mVar 4))) (mCons (mAnd (mVar 4) (mVar 5)) mNil)))))) mNil))))) m_law_pair_right_3 mNx)
@[reducible] def m_law_pair_right_5 : MS := (mPar false false 7 8 (mOpG (gOr (gII 0 (callX m_Grid_and)) (gIN 0 (callX m_Grid_and))) (mVar 2) (mVar 3)) (mCall (callX m_law_narrow) (mCons (mVar 0) (mCons (mVar 1) mNil))))
@[reducible] def m_law_pair_right_6 : MS := (mRet (mC (.bl false)))
@[reducible] def m_law_pair_right_7 : MS := (mIfS (mtNot (mB (mCall (callX (m_law_same 5)) (mCons (mLst (mCons (mAttr 0 1 (mVar 7)) (mCons (mAttr 0 0 (mVar 7)) (mCons (mOpG (gOr (gB (fEq false)) (gOr (gCm 0 1 (callX m_Grid_eq)) (gNI 0 (callX m_Grid_eq)))) (mOpG (gOr (gII 0 (callX m_Grid_and)) (gIN 0 (callX m_Grid_and))) (mVar 3) (mVar 2)) (mVar 7)) mNil)))) (mCons (mLst (mCons (mOp fIx (mVar 8) (mC (.int 0))) (mCons (mOp fIx (mVar 8) (mC (.int 1))) (mCons (mC (.bl true)) mNil)))) mNil))))) m_law_pair_right_6 mNx)
@[reducible] def m_law_pair_right_8 : MS := (mSet 8 (mCall (callX m_law_wide) (mCons (mVar 0) (mCons (mVar 1) mNil))))
@[reducible] def m_law_pair_right_c9 : MT := (mtAnd (mB (mOpG (gOr (gB (fEq false)) (gOr (gCm 0 1 (callX m_Grid_eq)) (gNI 0 (callX m_Grid_eq)))) (mOp fMod (mCb fInt (mCons (mOp fIx (mVar 0) (mC (.int 0))) mNil)) (mVar 9)) (mC (.int 0)))) (mB (mOpG (gOr (gB (fEq false)) (gOr (gCm 0 1 (callX m_Grid_eq)) (gNI 0 (callX m_Grid_eq)))) (mOp fMod (mCb fInt (mCons (mOp fIx (mVar 1) (mC (.int 0))) mNil)) (mVar 9)) (mC (.int 0)))))
@[reducible] def m_law_pair_right_e10 : ME := (mVar 9)
@[reducible] def m_law_pair_right_11 : MS := (mSet 7 (mLc (mItR2 (mCons (mC (.int 1)) (mCons (mOp fAdd (mOp fIx (mVar 0) (mC (.int 0))) (mC (.int 1))) mNil))) (tgName 9) m_law_pair_right_c9 m_law_pair_right_e10 [9]))
@[reducible] def m_law_pair_right_12 : MS := (mSet 8 (mLst (mCons (mOp fIx (mVar 7) (mOp fSub (mCb fLen (mCons (mVar 7) mNil)) (mC (.int 1)))) mNil)))
@[reducible] def m_law_pair_right_13 : MS := (mIfS (mB (mOp (fIsN false) (mVar 8) (mC .non))) (mSeq m_law_pair_right_11
  m_law_pair_right_12) mNx)
@[reducible] def m_law_pair_right_14 : MS := (mRet (mCall (callX (m_law_same 5)) (mCons (mLst (mCons (mCall (callX m_law_joined) (mCons (mVar 2) (mCons (mVar 3) mNil))) (mCons (mCall (callX m_law_joined) (mCons (mVar 3) (mCons (mVar 2) mNil))) mNil))) (mCons (mLst (mCons (mVar 8) (mCons (mVar 8) mNil))) mNil))))
theorem sc_law_pair_right : FnScope ["_law_mine", "_law_its", "_law_first", "_law_last", "_law_there", "_law_back", "_law_got", "_law_both", "_law_due", "_law_k"] ["_law_mine", "_law_its"] (defScope s_law_pair_right) := ⟨rfl, rfl, rfl, by decide +kernel, rfl, by decide +kernel, by decide +kernel⟩
def m_law_pair_right : MF := mDef 2 10
  (mSeq m_law_pair_right_0
  (mSeq m_law_pair_right_1
  (mSeq m_law_pair_right_2
  (mSeq m_law_pair_right_4
  (mSeq m_law_pair_right_5
  (mSeq m_law_pair_right_7
  (mSeq m_law_pair_right_8
  (mSeq m_law_pair_right_13
  m_law_pair_right_14))))))))
abbrev s_law_right : Stmt := topS 19
@[reducible] def m_law_right_0 : MS := (mRet (mC (.bl false)))
@[reducible] def m_law_right_1 : MS := (mIfS (mtNot (mB (mCall (callX m_law_hand_right) mNil))) m_law_right_0 mNx)
@[reducible] def m_law_right_2 : MS := (mSet 2 (mOp fAdd (mC (.int 1)) (mCall (callX m_law_take) (mCons (mVar 0) (mCons (mC (.int 12)) mNil)))))
@[reducible] def m_law_right_3 : MS := (mSet 3 (mCall (callX m_law_of) (mCons (mVar 0) (mCons (mLst (mCons (mOp fAdd (mC (.int 1)) (mCall (callX m_law_take) (mCons (mVar 0) (mCons (mC (.int 12)) mNil)))) (mCons (mVar 2) (mCons (mCb fMax (mCons (mC (.int 1)) (mCons (mOp fDiv (mVar 2) (mC (.int 2))) mNil))) (mCons (mCb fMin (mCons (mC (.int 12)) (mCons (mOp fMul (mC (.int 2)) (mVar 2)) mNil))) mNil))))) mNil))))
@[reducible] def m_law_right_4 : MS := (mPar false false 4 5 (mCall (callX m_law_take) (mCons (mVar 0) (mCons (mVar 2) mNil))) (mCall (callX m_law_take) (mCons (mVar 0) (mCons (mVar 3) mNil))))
@[reducible] def m_law_right_5 : MS := (mSet 5 (mCall (callX m_law_of) (mCons (mVar 0) (mCons (mLst (mCons (mVar 5) (mCons (mOp fMod (mCb fInt (mCons (mVar 4) mNil)) (mVar 3)) mNil))) mNil))))
@[reducible] def m_law_right_6 : MS := (mRet (mC (.bl false)))
@[reducible] def m_law_right_7 : MS := (mIfS (mtNot (mB (mCall (callX m_law_pair_right) (mCons (mTup (mCons (mVar 2) (mCons (mVar 4) mNil))) (mCons (mTup (mCons (mVar 3) (mCons (mVar 5) mNil))) mNil))))) m_law_right_6 mNx)
@[reducible] def m_law_right_b8 : MS := (mSeq m_law_right_2
  (mSeq m_law_right_3
  (mSeq m_law_right_4
  (mSeq m_law_right_5
  m_law_right_7))))
@[reducible] def m_law_right_9 : MS := (mFor (mItR1 (mCons (mC (.int 5)) mNil)) (tgName 1) m_law_right_b8)
@[reducible] def m_law_right_10 : MS := (mRet (mC (.bl true)))
theorem sc_law_right : FnScope ["_law_box_here", "_law_turn", "_law_mine", "_law_its", "_law_low", "_law_far"] ["_law_box_here"] (defScope s_law_right) := ⟨rfl, rfl, rfl, by decide +kernel, rfl, by decide +kernel, by decide +kernel⟩
def m_law_right : MF := mDef 1 6
  (mSeq m_law_right_1
  (mSeq m_law_right_9
  m_law_right_10))
abbrev s_law_box : Stmt := topS 7
@[reducible] def m_law_box_0 : MS := (mSet 2 (mIf (mB (mOp fLt (mVar 1) (mCb fLen (mCons (mVar 0) mNil)))) (mOp fIx (mVar 0) (mVar 1)) (mC (.int 0))))
@[reducible] def m_law_box_1 : MS := (mRet (mLst (mCons (mOp fMul (mCb fAbs (mCons (mVar 2) mNil)) (mCb fInt (mCons (mOp fGeI (mCb fAbs (mCons (mVar 2) mNil)) (mOp fPow (mC (.int 10)) (mC (.int 18)))) mNil))) (mCons (mOp fAdd (mOp fAdd (mOp fMod (mCb fInt (mCons (mVar 2) mNil)) (mC (.int 2305843009213693951))) (mOp fMul (mC (.int 39373)) (mVar 1))) (mC (.int 293))) (mCons (mC (.int 0)) mNil)))))
theorem sc_law_box : FnScope ["_law_script", "_law_k", "_law_cell"] ["_law_script", "_law_k"] (defScope s_law_box) := ⟨rfl, rfl, rfl, by decide +kernel, rfl, by decide +kernel, by decide +kernel⟩
def m_law_box : MF := mDef 2 3
  (mSeq m_law_box_0
  m_law_box_1)
abbrev s_law : Stmt := topS 20
@[reducible] def m_law_0 : MS := (mSet 1 (mCall (callX m_law_cells) (mCons (mVar 0) (mCons (mC (.int 3)) mNil))))
@[reducible] def m_law_e1 : ME := (mCall1 m_law_right (mCall (callX m_law_box) (mCons (mVar 1) (mCons (mVar 2) mNil))))
@[reducible] def m_law_2 : MS := (mRet (mCb fAll (mCons (mLc (mItR1 (mCons (mCb fLen (mCons (mVar 1) mNil)) mNil)) (tgName 2) mYes m_law_e1 [2]) mNil)))
theorem sc_law : FnScope ["_law_script", "_law_cells_so", "_law_k_so"] ["_law_script"] (defScope s_law) := ⟨rfl, rfl, rfl, by decide +kernel, rfl, by decide +kernel, by decide +kernel⟩
def m_law : MF := mDef 1 3
  (mSeq m_law_0
  m_law_2)
end NS
set_option Elab.async false
set_option linter.all false
set_option maxRecDepth 100000
set_option maxHeartbeats 4000000
namespace NS
open PySem PySem.Spec PyProof.Rows L2 DL
section
variable {P : Program} {w : World} {K : PySem.W.Frag} {mg : Str → Option Value} {base : Heap} {cl : Nat → Addr}
theorem t_law_cells_0 {f : Addr} (B : Bt mg) (cdv : Value) (A : Around) (outer : List Env) (s : Shared) (H : Hp) (E : XK) (hr : Room 0 (A.deeper (envOfC "_law_cells" (defScope s_law_cells) s.heap.objs.size f cdv))) :
    SS (cxOf CX0 P w K mg base ["_law_script", "_law_most_so", "_law_slots_so", "_law_k", "_law_cell", "_law_at_so"] "_law_cells" (defScope s_law_cells) f cdv A outer s H E).nox cl ((defBody s_law_cells).getD 0 (.Pass ⟨0, 0, 0, 0⟩)) m_law_cells_0 := by
  exact (ss_setC (i := 2) sc_law_cells.nd (se_or (se_list B.list (sa_cons (se_slice (se_var (i := 0)) so_none (so_some (se_var (i := 1)))) sa_nil)) (se_one (se_lst (sa_cons se_int sa_nil)))))
theorem t_law_cells_1 {f : Addr} (B : Bt mg) (cdv : Value) (A : Around) (outer : List Env) (s : Shared) (H : Hp) (E : XK) (hr : Room 0 (A.deeper (envOfC "_law_cells" (defScope s_law_cells) s.heap.objs.size f cdv))) :
    SS (cxOf CX0 P w K mg base ["_law_script", "_law_most_so", "_law_slots_so", "_law_k", "_law_cell", "_law_at_so"] "_law_cells" (defScope s_law_cells) f cdv A outer s H E).nox cl ((sub1 ((defBody s_law_cells).getD 1 (.Pass ⟨0, 0, 0, 0⟩))).getD 0 (.Pass ⟨0, 0, 0, 0⟩)) m_law_cells_1 := by
  exact (ss_set (i := 5) sc_law_cells.nd (se_mod (se_int1 B.int (sa_cons (se_var (i := 3)) sa_nil)) (se_var (i := 1))))
theorem t_law_cells_2 {f : Addr} (B : Bt mg) (cdv : Value) (A : Around) (outer : List Env) (s : Shared) (H : Hp) (E : XK) (hr : Room 0 (A.deeper (envOfC "_law_cells" (defScope s_law_cells) s.heap.objs.size f cdv))) :
    SS (cxOf CX0 P w K mg base ["_law_script", "_law_most_so", "_law_slots_so", "_law_k", "_law_cell", "_law_at_so"] "_law_cells" (defScope s_law_cells) f cdv A outer s H E).nox cl ((sub1 ((defBody s_law_cells).getD 1 (.Pass ⟨0, 0, 0, 0⟩))).getD 1 (.Pass ⟨0, 0, 0, 0⟩)) m_law_cells_2 := by
  exact (ss_put (se_var (i := 2)) (se_var (i := 5)) (se_add (se_ix (se_var (i := 2)) (se_var (i := 5))) (se_mul (se_var (i := 4)) (se_add (se_var (i := 3)) se_int))))
theorem t_law_cells_4 {f : Addr} (B : Bt mg) (cdv : Value) (A : Around) (outer : List Env) (s : Shared) (H : Hp) (E : XK) (hr : Room 0 (A.deeper (envOfC "_law_cells" (defScope s_law_cells) s.heap.objs.size f cdv))) :
    SS (cxOf CX0 P w K mg base ["_law_script", "_law_most_so", "_law_slots_so", "_law_k", "_law_cell", "_law_at_so"] "_law_cells" (defScope s_law_cells) f cdv A outer s H E).nox cl ((defBody s_law_cells).getD 1 (.Pass ⟨0, 0, 0, 0⟩)) m_law_cells_4 := by
  exact (ss_for (si_enum B.enumerate (sa_cons (se_slice (se_var (i := 0)) (so_some (se_var (i := 1))) (so_some se_int)) sa_nil)) (sg_pair (i := 3) (j := 4) (vs := [3, 4]) sc_law_cells.nd) (sss_cons (t_law_cells_1 B cdv A outer s H E hr)
    (sss_one (t_law_cells_2 B cdv A outer s H E hr))))
theorem t_law_cells_5 {f : Addr} (B : Bt mg) (cdv : Value) (A : Around) (outer : List Env) (s : Shared) (H : Hp) (E : XK) (hr : Room 0 (A.deeper (envOfC "_law_cells" (defScope s_law_cells) s.heap.objs.size f cdv))) :
    SS (cxOf CX0 P w K mg base ["_law_script", "_law_most_so", "_law_slots_so", "_law_k", "_law_cell", "_law_at_so"] "_law_cells" (defScope s_law_cells) f cdv A outer s H E).nox cl ((defBody s_law_cells).getD 2 (.Pass ⟨0, 0, 0, 0⟩)) m_law_cells_5 := by
  exact (ss_ret (se_var (i := 2)))
theorem ok_law_cells {f : Addr} {fd : FuncData} (F : Fun K "_law_cells" "_law_cells" s_law_cells f fd) (B : Bt mg) : FnOk P w K mg base CX0 1 f fd ["_law_script", "_law_most_so"] (spM K cl 2 m_law_cells) := by
  refine def_ok (N := ["_law_script", "_law_most_so", "_law_slots_so", "_law_k", "_law_cell", "_law_at_so"]) (n := 2) F sc_law_cells rfl (fun cdv A outer s H E hr => ?_)
  exact (sss_cons (t_law_cells_0 B cdv A outer s H E hr)
    (sss_cons (t_law_cells_4 B cdv A outer s H E hr)
    (sss_one (t_law_cells_5 B cdv A outer s H E hr))))
theorem fs_law_cells {f : Addr} {fd : FuncData} (F : Fun K "_law_cells" "_law_cells" s_law_cells f fd) (hm : mg "_law_cells" = some (.ref f)) (B : Bt mg) : FS P w K mg base cl 1 "_law_cells" 2 m_law_cells :=
  ⟨⟨f, fd, ["_law_script", "_law_most_so"], ok_law_cells F B, hm, F.kp, F.binds (ps := ["_law_script", "_law_most_so"]) fun _ _ _ _ _ _ us hl => match us, hl with | [_, _], _ => rfl, rfl⟩, fun rs μ z h => mDef_ar rs μ z h⟩
end
end NS
set_option Elab.async false
set_option linter.all false
set_option maxRecDepth 100000
set_option maxHeartbeats 4000000
namespace NS
open PySem PySem.Spec PyProof.Rows L2 DL
section
variable {P : Program} {w : World} {K : PySem.W.Frag} {mg : Str → Option Value} {base : Heap} {cl : Nat → Addr}
theorem ok_Grid_init {f : Addr} {fd : FuncData} (F : FunX K "__init__" "Grid.__init__" s_Grid_init [.int 0] f fd) (B : Bt mg) (L_Grid : ClS K cl 0 ["start", "width"]) (hne : ∀ δ μ pd μ', (mbTup [1, 0] (mTup (mCons (mVar 1) (mCons (mOp fMod (mCb fInt (mCons (mVar 2) mNil)) (mVar 1)) mNil)))) δ μ pd ≠ some (μ', [])) : FnOk P w K mg base CX0 1 f fd ["self", "width", "start"] (spI K cl 0 3 m_Grid_init) := by
  refine init_okD (N := ["self", "width", "start"]) (n := 3) F sc_Grid_init rfl (by decide) hne (fun cdv A outer s H E hr => ?_)
  exact (sbs_one (sb_tup (gs_cons (i := 1) L_Grid (gs_cons (i := 0) L_Grid gs_nil)) (se_tup (sa_cons (se_var (i := 1)) (sa_cons (se_mod (se_int1 B.int (sa_cons (se_var (i := 2)) sa_nil)) (se_var (i := 1))) sa_nil)))))
theorem fs_Grid_init {f : Addr} {fd : FuncData} (F : FunX K "__init__" "Grid.__init__" s_Grid_init [.int 0] f fd) (M : Mk K (cl 0) f) (hm : mg "Grid" = some (.ref (cl 0))) (B : Bt mg) (L_Grid : ClS K cl 0 ["start", "width"]) (hne : ∀ δ μ pd μ', (mbTup [1, 0] (mTup (mCons (mVar 1) (mCons (mOp fMod (mCb fInt (mCons (mVar 2) mNil)) (mVar 1)) mNil)))) δ μ pd ≠ some (μ', [])) : FI P w K mg base cl 1 0 "Grid" 3 m_Grid_init := by
  obtain ⟨ds, h1, h2⟩ := FunD.binds1 (ps := ["self", "width", "start"]) F 3 1 (by simp) rfl (fun T kV doc pm an cdv ct us its hl hi => match us, hl, its, hi with | [_, _, _], _, [_], _ => ⟨_, rfl, rfl⟩)
  cases h1
  exact ⟨⟨f, fd, ["self", "width", "start"], M, ok_Grid_init F B L_Grid hne, hm, h2, rfl⟩, mInit_ar⟩
theorem fsd_Grid_init {f : Addr} {fd : FuncData} (F : FunX K "__init__" "Grid.__init__" s_Grid_init [.int 0] f fd) (M : Mk K (cl 0) f) (hm : mg "Grid" = some (.ref (cl 0))) (B : Bt mg) (L_Grid : ClS K cl 0 ["start", "width"]) (hne : ∀ δ μ pd μ', (mbTup [1, 0] (mTup (mCons (mVar 1) (mCons (mOp fMod (mCb fInt (mCons (mVar 2) mNil)) (mVar 1)) mNil)))) δ μ pd ≠ some (μ', [])) : FID P w K mg base cl 1 0 "Grid" 3 m_Grid_init [.int 0] := by
  obtain ⟨ds, h1, h2⟩ := FunD.binds1 (ps := ["self", "width", "start"]) F 2 0 (by simp) rfl (fun T kV doc pm an cdv ct us its hl hi => match us, hl, its, hi with | [_, _], _, [_], _ => ⟨_, rfl, rfl⟩)
  exact ⟨⟨f, fd, ["self", "width", "start"], ds, _, M, ok_Grid_init F B L_Grid hne, hm, h2, h1, fun F => (.cons (.int _) .nil)⟩, mInit_ar⟩
end
end NS
set_option Elab.async false
set_option linter.all false
set_option maxRecDepth 100000
set_option maxHeartbeats 4000000
namespace NS
open PySem PySem.Spec PyProof.Rows L2 DL
section
variable {P : Program} {w : World} {K : PySem.W.Frag} {mg : Str → Option Value} {base : Heap} {cl : Nat → Addr}
theorem t_divisor_0 {f : Addr} (B : Bt mg) (cdv : Value) (A : Around) (outer : List Env) (s : Shared) (H : Hp) (E : XK) (hr : Room 0 (A.deeper (envOfC "divisor" (defScope s_divisor) s.heap.objs.size f cdv))) :
    SS (cxOf CX0 P w K mg base ["one", "other"] "divisor" (defScope s_divisor) f cdv A outer s H E).nox cl ((sub1 ((defBody s_divisor).getD 0 (.Pass ⟨0, 0, 0, 0⟩))).getD 0 (.Pass ⟨0, 0, 0, 0⟩)) m_divisor_0 := by
  exact (ss_par (ci := false) (cj := false) (i := 0) (j := 1) sc_divisor.nd (se_var (i := 1)) (se_mod (se_int1 B.int (sa_cons (se_var (i := 0)) sa_nil)) (se_var (i := 1))))
theorem t_divisor_2 {f : Addr} (B : Bt mg) (cdv : Value) (A : Around) (outer : List Env) (s : Shared) (H : Hp) (E : XK) (hr : Room 0 (A.deeper (envOfC "divisor" (defScope s_divisor) s.heap.objs.size f cdv))) :
    SS (cxOf CX0 P w K mg base ["one", "other"] "divisor" (defScope s_divisor) f cdv A outer s H E).nox cl ((defBody s_divisor).getD 0 (.Pass ⟨0, 0, 0, 0⟩)) m_divisor_2 := by
  exact (ss_while (n := 1000) (st_gt (se_var (i := 1)) se_int) (sss_one (t_divisor_0 B cdv A outer s H E hr)))
theorem t_divisor_3 {f : Addr} (B : Bt mg) (cdv : Value) (A : Around) (outer : List Env) (s : Shared) (H : Hp) (E : XK) (hr : Room 0 (A.deeper (envOfC "divisor" (defScope s_divisor) s.heap.objs.size f cdv))) :
    SS (cxOf CX0 P w K mg base ["one", "other"] "divisor" (defScope s_divisor) f cdv A outer s H E).nox cl ((defBody s_divisor).getD 1 (.Pass ⟨0, 0, 0, 0⟩)) m_divisor_3 := by
  exact (ss_ret (se_var (i := 0)))
theorem ok_divisor {f : Addr} {fd : FuncData} (F : Fun K "divisor" "divisor" s_divisor f fd) (B : Bt mg) : FnOk P w K mg base CX0 1 f fd ["one", "other"] (spM K cl 2 m_divisor) := by
  refine def_ok (N := ["one", "other"]) (n := 2) F sc_divisor rfl (fun cdv A outer s H E hr => ?_)
  exact (sss_cons (t_divisor_2 B cdv A outer s H E hr)
    (sss_one (t_divisor_3 B cdv A outer s H E hr)))
theorem fs_divisor {f : Addr} {fd : FuncData} (F : Fun K "divisor" "divisor" s_divisor f fd) (hm : mg "divisor" = some (.ref f)) (B : Bt mg) : FS P w K mg base cl 1 "divisor" 2 m_divisor :=
  ⟨⟨f, fd, ["one", "other"], ok_divisor F B, hm, F.kp, F.binds (ps := ["one", "other"]) fun _ _ _ _ _ _ us hl => match us, hl with | [_, _], _ => rfl, rfl⟩, fun rs μ z h => mDef_ar rs μ z h⟩
end
end NS
set_option Elab.async false
set_option linter.all false
set_option maxRecDepth 100000
set_option maxHeartbeats 4000000
namespace NS
open PySem PySem.Spec PyProof.Rows L2 DL
section
variable {P : Program} {w : World} {K : PySem.W.Frag} {mg : Str → Option Value} {base : Heap} {cl : Nat → Addr}
theorem t_Grid_and_0 {f : Addr} (B : Bt mg) (S_divisor : FS P w K mg base cl 1 "divisor" 2 m_divisor) (L_Grid : ClS K cl 0 ["start", "width"]) (S_Grid_init : FI P w K mg base cl 1 0 "Grid" 3 m_Grid_init) (cdv : Value) (A : Around) (outer : List Env) (s : Shared) (H : Hp) (E : XK) (hr : Room 2 (A.deeper (envOfC "Grid.__and__" (defScope s_Grid_and) s.heap.objs.size f cdv))) :
    SS (cxOf CX0 P w K mg base ["self", "other", "width"] "Grid.__and__" (defScope s_Grid_and) f cdv A outer s H E).nox cl ((defBody s_Grid_and).getD 0 (.Pass ⟨0, 0, 0, 0⟩)) m_Grid_and_0 := by
  exact (ss_set (i := 2) sc_Grid_and.nd (se_call S_divisor.x hr (by decide) (sa_cons (se_call S_divisor.x hr (by decide) (sa_cons (se_attr (c := 0) (i := 1) L_Grid (se_var (i := 0))) (sa_cons (se_attr (c := 0) (i := 1) L_Grid (se_var (i := 1))) sa_nil))) (sa_cons (se_abs B.abs (sa_cons (se_sub (se_attr (c := 0) (i := 0) L_Grid (se_var (i := 0))) (se_attr (c := 0) (i := 0) L_Grid (se_var (i := 1)))) sa_nil)) sa_nil))))
theorem t_Grid_and_1 {f : Addr} (B : Bt mg) (S_divisor : FS P w K mg base cl 1 "divisor" 2 m_divisor) (L_Grid : ClS K cl 0 ["start", "width"]) (S_Grid_init : FI P w K mg base cl 1 0 "Grid" 3 m_Grid_init) (cdv : Value) (A : Around) (outer : List Env) (s : Shared) (H : Hp) (E : XK) (hr : Room 2 (A.deeper (envOfC "Grid.__and__" (defScope s_Grid_and) s.heap.objs.size f cdv))) :
    SS (cxOf CX0 P w K mg base ["self", "other", "width"] "Grid.__and__" (defScope s_Grid_and) f cdv A outer s H E).nox cl ((defBody s_Grid_and).getD 1 (.Pass ⟨0, 0, 0, 0⟩)) m_Grid_and_1 := by
  exact (ss_ret (se_make S_Grid_init hr (by decide) (sa_cons (se_var (i := 2)) (sa_cons (se_attr (c := 0) (i := 0) L_Grid (se_var (i := 0))) sa_nil))))
theorem ok_Grid_and {f : Addr} {fd : FuncData} (F : Fun K "__and__" "Grid.__and__" s_Grid_and f fd) (B : Bt mg) (S_divisor : FS P w K mg base cl 1 "divisor" 2 m_divisor) (L_Grid : ClS K cl 0 ["start", "width"]) (S_Grid_init : FI P w K mg base cl 1 0 "Grid" 3 m_Grid_init) : FnOk P w K mg base CX0 3 f fd ["self", "other"] (spM K cl 2 m_Grid_and) := by
  refine def_ok (N := ["self", "other", "width"]) (n := 2) F sc_Grid_and rfl (fun cdv A outer s H E hr => ?_)
  exact (sss_cons (t_Grid_and_0 B S_divisor L_Grid S_Grid_init cdv A outer s H E hr)
    (sss_one (t_Grid_and_1 B S_divisor L_Grid S_Grid_init cdv A outer s H E hr)))
theorem fa_Grid_and {f : Addr} {fd : FuncData} (F : Fun K "__and__" "Grid.__and__" s_Grid_and f fd) (B : Bt mg) (S_divisor : FS P w K mg base cl 1 "divisor" 2 m_divisor) (L_Grid : ClS K cl 0 ["start", "width"]) (S_Grid_init : FI P w K mg base cl 1 0 "Grid" 3 m_Grid_init) : FA P w K mg base cl 3 f 2 m_Grid_and :=
  FA.of (ok_Grid_and F B S_divisor L_Grid S_Grid_init) (F.binds (ps := ["self", "other"]) fun _ _ _ _ _ _ us hl => match us, hl with | [_, _], _ => rfl) F.kp (fun rs μ z h => mDef_ar rs μ z h)
end
end NS
set_option Elab.async false
set_option linter.all false
set_option maxRecDepth 100000
set_option maxHeartbeats 4000000
namespace NS
open PySem PySem.Spec PyProof.Rows L2 DL
section
variable {P : Program} {w : World} {K : PySem.W.Frag} {mg : Str → Option Value} {base : Heap} {cl : Nat → Addr}
theorem t_Grid_or_0 {f : Addr} (B : Bt mg) (S_divisor : FS P w K mg base cl 1 "divisor" 2 m_divisor) (L_Grid : ClS K cl 0 ["start", "width"]) (S_Grid_init : FI P w K mg base cl 1 0 "Grid" 3 m_Grid_init) (cdv : Value) (A : Around) (outer : List Env) (s : Shared) (H : Hp) (E : XK) (hr : Room 2 (A.deeper (envOfC "Grid.__or__" (defScope s_Grid_or) s.heap.objs.size f cdv))) :
    SS (cxOf CX0 P w K mg base ["self", "other", "common", "starts", "place", "meeting", "start"] "Grid.__or__" (defScope s_Grid_or) f cdv A outer s H E).nox cl ((defBody s_Grid_or).getD 0 (.Pass ⟨0, 0, 0, 0⟩)) m_Grid_or_0 := by
  exact (ss_set (i := 2) sc_Grid_or.nd (se_call S_divisor.x hr (by decide) (sa_cons (se_attr (c := 0) (i := 1) L_Grid (se_var (i := 0))) (sa_cons (se_attr (c := 0) (i := 1) L_Grid (se_var (i := 1))) sa_nil))))
theorem t_Grid_or_1 {f : Addr} (B : Bt mg) (S_divisor : FS P w K mg base cl 1 "divisor" 2 m_divisor) (L_Grid : ClS K cl 0 ["start", "width"]) (S_Grid_init : FI P w K mg base cl 1 0 "Grid" 3 m_Grid_init) (cdv : Value) (A : Around) (outer : List Env) (s : Shared) (H : Hp) (E : XK) (hr : Room 2 (A.deeper (envOfC "Grid.__or__" (defScope s_Grid_or) s.heap.objs.size f cdv))) :
    SS (cxOf CX0 P w K mg base ["self", "other", "common", "starts", "place", "meeting", "start"] "Grid.__or__" (defScope s_Grid_or) f cdv A outer s H E).nox cl ((sub1 ((defBody s_Grid_or).getD 1 (.Pass ⟨0, 0, 0, 0⟩))).getD 0 (.Pass ⟨0, 0, 0, 0⟩)) m_Grid_or_1 := by
  exact ss_never
theorem t_Grid_or_2 {f : Addr} (B : Bt mg) (S_divisor : FS P w K mg base cl 1 "divisor" 2 m_divisor) (L_Grid : ClS K cl 0 ["start", "width"]) (S_Grid_init : FI P w K mg base cl 1 0 "Grid" 3 m_Grid_init) (cdv : Value) (A : Around) (outer : List Env) (s : Shared) (H : Hp) (E : XK) (hr : Room 2 (A.deeper (envOfC "Grid.__or__" (defScope s_Grid_or) s.heap.objs.size f cdv))) :
    SS (cxOf CX0 P w K mg base ["self", "other", "common", "starts", "place", "meeting", "start"] "Grid.__or__" (defScope s_Grid_or) f cdv A outer s H E).nox cl ((defBody s_Grid_or).getD 1 (.Pass ⟨0, 0, 0, 0⟩)) m_Grid_or_2 := by
  exact (ss_if (st_ne hr.units (se_mod (se_int1 B.int (sa_cons (se_sub (se_attr (c := 0) (i := 0) L_Grid (se_var (i := 0))) (se_attr (c := 0) (i := 0) L_Grid (se_var (i := 1)))) sa_nil)) (se_var (i := 2))) se_int) (sss_one (t_Grid_or_1 B S_divisor L_Grid S_Grid_init cdv A outer s H E hr)) sss_nil)
theorem t_Grid_or_4 {f : Addr} (B : Bt mg) (S_divisor : FS P w K mg base cl 1 "divisor" 2 m_divisor) (L_Grid : ClS K cl 0 ["start", "width"]) (S_Grid_init : FI P w K mg base cl 1 0 "Grid" 3 m_Grid_init) (cdv : Value) (A : Around) (outer : List Env) (s : Shared) (H : Hp) (E : XK) (hr : Room 2 (A.deeper (envOfC "Grid.__or__" (defScope s_Grid_or) s.heap.objs.size f cdv))) :
    SS (cxOf CX0 P w K mg base ["self", "other", "common", "starts", "place", "meeting", "start"] "Grid.__or__" (defScope s_Grid_or) f cdv A outer s H E).nox cl ((defBody s_Grid_or).getD 2 (.Pass ⟨0, 0, 0, 0⟩)) m_Grid_or_4 := by
  exact (ss_setLc (i := 3) (own := [("place", 4)]) sc_Grid_or.nd (si_range1 B.range (sa_cons (se_attr (c := 0) (i := 1) L_Grid (se_var (i := 1))) sa_nil)) (sem_name (by decide)) (fun _ _ _ _ _ => (sg_name (cl := cl) (vs := [4]) (i := 4) sc_Grid_or.nd).1) (fun _ _ _ _ _ => stt_nil) (fun _ _ _ _ _ => (se_add (se_attr (c := 0) (i := 0) L_Grid (se_var (i := 0))) (se_mul (se_var (i := 4)) (se_attr (c := 0) (i := 1) L_Grid (se_var (i := 0)))))) (blkOk_by (by kernel_rfl)) (sw_true rfl rfl rfl (by decide +kernel)))
theorem t_Grid_or_7 {f : Addr} (B : Bt mg) (S_divisor : FS P w K mg base cl 1 "divisor" 2 m_divisor) (L_Grid : ClS K cl 0 ["start", "width"]) (S_Grid_init : FI P w K mg base cl 1 0 "Grid" 3 m_Grid_init) (cdv : Value) (A : Around) (outer : List Env) (s : Shared) (H : Hp) (E : XK) (hr : Room 2 (A.deeper (envOfC "Grid.__or__" (defScope s_Grid_or) s.heap.objs.size f cdv))) :
    SS (cxOf CX0 P w K mg base ["self", "other", "common", "starts", "place", "meeting", "start"] "Grid.__or__" (defScope s_Grid_or) f cdv A outer s H E).nox cl ((defBody s_Grid_or).getD 3 (.Pass ⟨0, 0, 0, 0⟩)) m_Grid_or_7 := by
  exact (ss_setLc (i := 5) (own := [("start", 6)]) sc_Grid_or.nd (si_seq (se_var (i := 3))) (sem_name (by decide)) (fun _ _ _ _ _ => (sg_name (cl := cl) (vs := [6]) (i := 6) sc_Grid_or.nd).1) (fun _ _ _ _ _ => (stt_one (st_eq hr.units (se_mod (se_int1 B.int (sa_cons (se_sub (se_var (i := 6)) (se_attr (c := 0) (i := 0) L_Grid (se_var (i := 1)))) sa_nil)) (se_attr (c := 0) (i := 1) L_Grid (se_var (i := 1)))) se_int))) (fun _ _ _ _ _ => (se_var (i := 6))) (blkOk_by (by kernel_rfl)) (sw_true rfl rfl rfl (by decide +kernel)))
theorem t_Grid_or_8 {f : Addr} (B : Bt mg) (S_divisor : FS P w K mg base cl 1 "divisor" 2 m_divisor) (L_Grid : ClS K cl 0 ["start", "width"]) (S_Grid_init : FI P w K mg base cl 1 0 "Grid" 3 m_Grid_init) (cdv : Value) (A : Around) (outer : List Env) (s : Shared) (H : Hp) (E : XK) (hr : Room 2 (A.deeper (envOfC "Grid.__or__" (defScope s_Grid_or) s.heap.objs.size f cdv))) :
    SS (cxOf CX0 P w K mg base ["self", "other", "common", "starts", "place", "meeting", "start"] "Grid.__or__" (defScope s_Grid_or) f cdv A outer s H E).nox cl ((defBody s_Grid_or).getD 4 (.Pass ⟨0, 0, 0, 0⟩)) m_Grid_or_8 := by
  exact (ss_ret (se_make S_Grid_init hr (by decide) (sa_cons (se_mul (se_div (se_attr (c := 0) (i := 1) L_Grid (se_var (i := 0))) (se_var (i := 2))) (se_attr (c := 0) (i := 1) L_Grid (se_var (i := 1)))) (sa_cons (se_ix (se_var (i := 5)) se_int) sa_nil))))
theorem ok_Grid_or {f : Addr} {fd : FuncData} (F : Fun K "__or__" "Grid.__or__" s_Grid_or f fd) (B : Bt mg) (S_divisor : FS P w K mg base cl 1 "divisor" 2 m_divisor) (L_Grid : ClS K cl 0 ["start", "width"]) (S_Grid_init : FI P w K mg base cl 1 0 "Grid" 3 m_Grid_init) : FnOk P w K mg base CX0 3 f fd ["self", "other"] (spM K cl 2 m_Grid_or) := by
  refine def_ok (N := ["self", "other", "common", "starts", "place", "meeting", "start"]) (n := 2) F sc_Grid_or rfl (fun cdv A outer s H E hr => ?_)
  exact (sss_cons (t_Grid_or_0 B S_divisor L_Grid S_Grid_init cdv A outer s H E hr)
    (sss_cons (t_Grid_or_2 B S_divisor L_Grid S_Grid_init cdv A outer s H E hr)
    (sss_cons (t_Grid_or_4 B S_divisor L_Grid S_Grid_init cdv A outer s H E hr)
    (sss_cons (t_Grid_or_7 B S_divisor L_Grid S_Grid_init cdv A outer s H E hr)
    (sss_one (t_Grid_or_8 B S_divisor L_Grid S_Grid_init cdv A outer s H E hr))))))
theorem fa_Grid_or {f : Addr} {fd : FuncData} (F : Fun K "__or__" "Grid.__or__" s_Grid_or f fd) (B : Bt mg) (S_divisor : FS P w K mg base cl 1 "divisor" 2 m_divisor) (L_Grid : ClS K cl 0 ["start", "width"]) (S_Grid_init : FI P w K mg base cl 1 0 "Grid" 3 m_Grid_init) : FA P w K mg base cl 3 f 2 m_Grid_or :=
  FA.of (ok_Grid_or F B S_divisor L_Grid S_Grid_init) (F.binds (ps := ["self", "other"]) fun _ _ _ _ _ _ us hl => match us, hl with | [_, _], _ => rfl) F.kp (fun rs μ z h => mDef_ar rs μ z h)
end
end NS
set_option Elab.async false
set_option linter.all false
set_option maxRecDepth 100000
set_option maxHeartbeats 4000000
namespace NS
open PySem PySem.Spec PyProof.Rows L2 DL
section
variable {P : Program} {w : World} {K : PySem.W.Frag} {mg : Str → Option Value} {base : Heap} {cl : Nat → Addr}
theorem t_Grid_is_same_0 {f : Addr} (B : Bt mg) (L_Grid : ClS K cl 0 ["start", "width"]) (cdv : Value) (A : Around) (outer : List Env) (s : Shared) (H : Hp) (E : XK) (hr : Room 0 (A.deeper (envOfC "Grid.is_same" (defScope s_Grid_is_same) s.heap.objs.size f cdv))) :
    SS (cxOf CX0 P w K mg base ["self", "other"] "Grid.is_same" (defScope s_Grid_is_same) f cdv A outer s H E).nox cl ((defBody s_Grid_is_same).getD 0 (.Pass ⟨0, 0, 0, 0⟩)) m_Grid_is_same_0 := by
  exact (ss_ret (se_and (se_eq hr.units (se_attr (c := 0) (i := 1) L_Grid (se_var (i := 0))) (se_attr (c := 0) (i := 1) L_Grid (se_var (i := 1)))) (se_one (se_eq hr.units (se_attr (c := 0) (i := 0) L_Grid (se_var (i := 0))) (se_attr (c := 0) (i := 0) L_Grid (se_var (i := 1)))))))
theorem ok_Grid_is_same {f : Addr} {fd : FuncData} (F : Fun K "is_same" "Grid.is_same" s_Grid_is_same f fd) (B : Bt mg) (L_Grid : ClS K cl 0 ["start", "width"]) : FnOk P w K mg base CX0 1 f fd ["self", "other"] (spM K cl 2 m_Grid_is_same) := by
  refine def_ok (N := ["self", "other"]) (n := 2) F sc_Grid_is_same rfl (fun cdv A outer s H E hr => ?_)
  exact (sss_one (t_Grid_is_same_0 B L_Grid cdv A outer s H E hr))
theorem fa_Grid_is_same {f : Addr} {fd : FuncData} (F : Fun K "is_same" "Grid.is_same" s_Grid_is_same f fd) (B : Bt mg) (L_Grid : ClS K cl 0 ["start", "width"]) : FA P w K mg base cl 1 f 2 m_Grid_is_same :=
  FA.of (ok_Grid_is_same F B L_Grid) (F.binds (ps := ["self", "other"]) fun _ _ _ _ _ _ us hl => match us, hl with | [_, _], _ => rfl) F.kp (fun rs μ z h => mDef_ar rs μ z h)
end
end NS
set_option Elab.async false
set_option linter.all false
set_option maxRecDepth 100000
set_option maxHeartbeats 4000000
namespace NS
open PySem PySem.Spec PyProof.Rows L2 DL
section
variable {P : Program} {w : World} {K : PySem.W.Frag} {mg : Str → Option Value} {base : Heap} {cl : Nat → Addr}
theorem t_Grid_eq_0 {f : Addr} (B : Bt mg) (I_Grid : IsO K mg cl 1 "Grid" 0) (S_Grid_is_same : FM P w K mg base cl 1 0 "is_same" 2 m_Grid_is_same) (cdv : Value) (A : Around) (outer : List Env) (s : Shared) (H : Hp) (E : XK) (hr : Room 1 (A.deeper (envOfC "Grid.__eq__" (defScope s_Grid_eq) s.heap.objs.size f cdv))) :
    SS (cxOf CX0 P w K mg base ["self", "other"] "Grid.__eq__" (defScope s_Grid_eq) f cdv A outer s H E).nox cl ((defBody s_Grid_eq).getD 0 (.Pass ⟨0, 0, 0, 0⟩)) m_Grid_eq_0 := by
  exact (ss_ret (se_and (se_isiO I_Grid B.isinstance (se_var (i := 1))) (se_one (se_meth S_Grid_is_same.x hr (by decide) (se_var (i := 0)) (sa_cons (se_var (i := 1)) sa_nil)))))
theorem ok_Grid_eq {f : Addr} {fd : FuncData} (F : Fun K "__eq__" "Grid.__eq__" s_Grid_eq f fd) (B : Bt mg) (I_Grid : IsO K mg cl 1 "Grid" 0) (S_Grid_is_same : FM P w K mg base cl 1 0 "is_same" 2 m_Grid_is_same) : FnOk P w K mg base CX0 2 f fd ["self", "other"] (spM K cl 2 m_Grid_eq) := by
  refine def_ok (N := ["self", "other"]) (n := 2) F sc_Grid_eq rfl (fun cdv A outer s H E hr => ?_)
  exact (sss_one (t_Grid_eq_0 B I_Grid S_Grid_is_same cdv A outer s H E hr))
theorem fa_Grid_eq {f : Addr} {fd : FuncData} (F : Fun K "__eq__" "Grid.__eq__" s_Grid_eq f fd) (B : Bt mg) (I_Grid : IsO K mg cl 1 "Grid" 0) (S_Grid_is_same : FM P w K mg base cl 1 0 "is_same" 2 m_Grid_is_same) : FA P w K mg base cl 2 f 2 m_Grid_eq :=
  FA.of (ok_Grid_eq F B I_Grid S_Grid_is_same) (F.binds (ps := ["self", "other"]) fun _ _ _ _ _ _ us hl => match us, hl with | [_, _], _ => rfl) F.kp (fun rs μ z h => mDef_ar rs μ z h)
end
end NS
set_option Elab.async false
set_option linter.all false
set_option maxRecDepth 100000
set_option maxHeartbeats 4000000
namespace NS
open PySem PySem.Spec PyProof.Rows L2 DL
section
variable {P : Program} {w : World} {K : PySem.W.Frag} {mg : Str → Option Value} {base : Heap} {cl : Nat → Addr}
theorem t_Grid_starts_at_0 {f : Addr} (B : Bt mg) (L_Grid : ClS K cl 0 ["start", "width"]) (cdv : Value) (A : Around) (outer : List Env) (s : Shared) (H : Hp) (E : XK) (hr : Room 0 (A.deeper (envOfC "Grid.starts_at" (defScope s_Grid_starts_at) s.heap.objs.size f cdv))) :
    SS (cxOf CX0 P w K mg base ["self", "number"] "Grid.starts_at" (defScope s_Grid_starts_at) f cdv A outer s H E).nox cl ((defBody s_Grid_starts_at).getD 0 (.Pass ⟨0, 0, 0, 0⟩)) m_Grid_starts_at_0 := by
  exact (ss_ret (se_eq hr.units (se_mod (se_int1 B.int (sa_cons (se_sub (se_var (i := 1)) (se_attr (c := 0) (i := 0) L_Grid (se_var (i := 0)))) sa_nil)) (se_attr (c := 0) (i := 1) L_Grid (se_var (i := 0)))) se_int))
theorem ok_Grid_starts_at {f : Addr} {fd : FuncData} (F : Fun K "starts_at" "Grid.starts_at" s_Grid_starts_at f fd) (B : Bt mg) (L_Grid : ClS K cl 0 ["start", "width"]) : FnOk P w K mg base CX0 1 f fd ["self", "number"] (spM K cl 2 m_Grid_starts_at) := by
  refine def_ok (N := ["self", "number"]) (n := 2) F sc_Grid_starts_at rfl (fun cdv A outer s H E hr => ?_)
  exact (sss_one (t_Grid_starts_at_0 B L_Grid cdv A outer s H E hr))
theorem fa_Grid_starts_at {f : Addr} {fd : FuncData} (F : Fun K "starts_at" "Grid.starts_at" s_Grid_starts_at f fd) (B : Bt mg) (L_Grid : ClS K cl 0 ["start", "width"]) : FA P w K mg base cl 1 f 2 m_Grid_starts_at :=
  FA.of (ok_Grid_starts_at F B L_Grid) (F.binds (ps := ["self", "number"]) fun _ _ _ _ _ _ us hl => match us, hl with | [_, _], _ => rfl) F.kp (fun rs μ z h => mDef_ar rs μ z h)
end
end NS
set_option Elab.async false
set_option linter.all false
set_option maxRecDepth 100000
set_option maxHeartbeats 4000000
namespace NS
open PySem PySem.Spec PyProof.Rows L2 DL
section
variable {P : Program} {w : World} {K : PySem.W.Frag} {mg : Str → Option Value} {base : Heap} {cl : Nat → Addr}
theorem t_Grid_is_finer_0 {f : Addr} (B : Bt mg) (L_Grid : ClS K cl 0 ["start", "width"]) (S_Grid_starts_at : FM P w K mg base cl 1 0 "starts_at" 2 m_Grid_starts_at) (cdv : Value) (A : Around) (outer : List Env) (s : Shared) (H : Hp) (E : XK) (hr : Room 1 (A.deeper (envOfC "Grid.is_finer" (defScope s_Grid_is_finer) s.heap.objs.size f cdv))) :
    SS (cxOf CX0 P w K mg base ["self", "other"] "Grid.is_finer" (defScope s_Grid_is_finer) f cdv A outer s H E).nox cl ((defBody s_Grid_is_finer).getD 0 (.Pass ⟨0, 0, 0, 0⟩)) m_Grid_is_finer_0 := by
  exact (ss_ret (se_and (se_eq hr.units (se_mod (se_int1 B.int (sa_cons (se_attr (c := 0) (i := 1) L_Grid (se_var (i := 1))) sa_nil)) (se_attr (c := 0) (i := 1) L_Grid (se_var (i := 0)))) se_int) (se_one (se_meth S_Grid_starts_at.x hr (by decide) (se_var (i := 0)) (sa_cons (se_attr (c := 0) (i := 0) L_Grid (se_var (i := 1))) sa_nil)))))
theorem ok_Grid_is_finer {f : Addr} {fd : FuncData} (F : Fun K "is_finer" "Grid.is_finer" s_Grid_is_finer f fd) (B : Bt mg) (L_Grid : ClS K cl 0 ["start", "width"]) (S_Grid_starts_at : FM P w K mg base cl 1 0 "starts_at" 2 m_Grid_starts_at) : FnOk P w K mg base CX0 2 f fd ["self", "other"] (spM K cl 2 m_Grid_is_finer) := by
  refine def_ok (N := ["self", "other"]) (n := 2) F sc_Grid_is_finer rfl (fun cdv A outer s H E hr => ?_)
  exact (sss_one (t_Grid_is_finer_0 B L_Grid S_Grid_starts_at cdv A outer s H E hr))
theorem fa_Grid_is_finer {f : Addr} {fd : FuncData} (F : Fun K "is_finer" "Grid.is_finer" s_Grid_is_finer f fd) (B : Bt mg) (L_Grid : ClS K cl 0 ["start", "width"]) (S_Grid_starts_at : FM P w K mg base cl 1 0 "starts_at" 2 m_Grid_starts_at) : FA P w K mg base cl 2 f 2 m_Grid_is_finer :=
  FA.of (ok_Grid_is_finer F B L_Grid S_Grid_starts_at) (F.binds (ps := ["self", "other"]) fun _ _ _ _ _ _ us hl => match us, hl with | [_, _], _ => rfl) F.kp (fun rs μ z h => mDef_ar rs μ z h)
end
end NS
set_option Elab.async false
set_option linter.all false
set_option maxRecDepth 100000
set_option maxHeartbeats 4000000
namespace NS
open PySem PySem.Spec PyProof.Rows L2 DL
section
variable {P : Program} {w : World} {K : PySem.W.Frag} {mg : Str → Option Value} {base : Heap} {cl : Nat → Addr}
theorem t_Grid_le_0 {f : Addr} (B : Bt mg) (S_Grid_is_finer : FM P w K mg base cl 2 0 "is_finer" 2 m_Grid_is_finer) (cdv : Value) (A : Around) (outer : List Env) (s : Shared) (H : Hp) (E : XK) (hr : Room 2 (A.deeper (envOfC "Grid.__le__" (defScope s_Grid_le) s.heap.objs.size f cdv))) :
    SS (cxOf CX0 P w K mg base ["self", "other"] "Grid.__le__" (defScope s_Grid_le) f cdv A outer s H E).nox cl ((defBody s_Grid_le).getD 0 (.Pass ⟨0, 0, 0, 0⟩)) m_Grid_le_0 := by
  exact (ss_ret (se_meth S_Grid_is_finer.x hr (by decide) (se_var (i := 0)) (sa_cons (se_var (i := 1)) sa_nil)))
theorem ok_Grid_le {f : Addr} {fd : FuncData} (F : Fun K "__le__" "Grid.__le__" s_Grid_le f fd) (B : Bt mg) (S_Grid_is_finer : FM P w K mg base cl 2 0 "is_finer" 2 m_Grid_is_finer) : FnOk P w K mg base CX0 3 f fd ["self", "other"] (spM K cl 2 m_Grid_le) := by
  refine def_ok (N := ["self", "other"]) (n := 2) F sc_Grid_le rfl (fun cdv A outer s H E hr => ?_)
  exact (sss_one (t_Grid_le_0 B S_Grid_is_finer cdv A outer s H E hr))
theorem fa_Grid_le {f : Addr} {fd : FuncData} (F : Fun K "__le__" "Grid.__le__" s_Grid_le f fd) (B : Bt mg) (S_Grid_is_finer : FM P w K mg base cl 2 0 "is_finer" 2 m_Grid_is_finer) : FA P w K mg base cl 3 f 2 m_Grid_le :=
  FA.of (ok_Grid_le F B S_Grid_is_finer) (F.binds (ps := ["self", "other"]) fun _ _ _ _ _ _ us hl => match us, hl with | [_, _], _ => rfl) F.kp (fun rs μ z h => mDef_ar rs μ z h)
end
end NS
set_option Elab.async false
set_option linter.all false
set_option maxRecDepth 100000
set_option maxHeartbeats 4000000
namespace NS
open PySem PySem.Spec PyProof.Rows L2 DL
section
variable {P : Program} {w : World} {K : PySem.W.Frag} {mg : Str → Option Value} {base : Heap} {cl : Nat → Addr}
theorem t_Grid_ge_0 {f : Addr} (B : Bt mg) (L_Grid : ClS K cl 0 ["start", "width"]) (cdv : Value) (A : Around) (outer : List Env) (s : Shared) (H : Hp) (E : XK) (hr : Room 0 (A.deeper (envOfC "Grid.__ge__" (defScope s_Grid_ge) s.heap.objs.size f cdv))) :
    SS (cxOf CX0 P w K mg base ["self", "other"] "Grid.__ge__" (defScope s_Grid_ge) f cdv A outer s H E).nox cl ((defBody s_Grid_ge).getD 0 (.Pass ⟨0, 0, 0, 0⟩)) m_Grid_ge_0 := by
  exact (ss_ret (se_and (se_eq hr.units (se_mod (se_int1 B.int (sa_cons (se_attr (c := 0) (i := 1) L_Grid (se_var (i := 0))) sa_nil)) (se_attr (c := 0) (i := 1) L_Grid (se_var (i := 1)))) se_int) (se_one (se_eq hr.units (se_mod (se_int1 B.int (sa_cons (se_sub (se_attr (c := 0) (i := 0) L_Grid (se_var (i := 0))) (se_attr (c := 0) (i := 0) L_Grid (se_var (i := 1)))) sa_nil)) (se_attr (c := 0) (i := 1) L_Grid (se_var (i := 1)))) se_int))))
theorem ok_Grid_ge {f : Addr} {fd : FuncData} (F : Fun K "__ge__" "Grid.__ge__" s_Grid_ge f fd) (B : Bt mg) (L_Grid : ClS K cl 0 ["start", "width"]) : FnOk P w K mg base CX0 1 f fd ["self", "other"] (spM K cl 2 m_Grid_ge) := by
  refine def_ok (N := ["self", "other"]) (n := 2) F sc_Grid_ge rfl (fun cdv A outer s H E hr => ?_)
  exact (sss_one (t_Grid_ge_0 B L_Grid cdv A outer s H E hr))
theorem fa_Grid_ge {f : Addr} {fd : FuncData} (F : Fun K "__ge__" "Grid.__ge__" s_Grid_ge f fd) (B : Bt mg) (L_Grid : ClS K cl 0 ["start", "width"]) : FA P w K mg base cl 1 f 2 m_Grid_ge :=
  FA.of (ok_Grid_ge F B L_Grid) (F.binds (ps := ["self", "other"]) fun _ _ _ _ _ _ us hl => match us, hl with | [_, _], _ => rfl) F.kp (fun rs μ z h => mDef_ar rs μ z h)
end
end NS
set_option Elab.async false
set_option linter.all false
set_option maxRecDepth 100000
set_option maxHeartbeats 4000000
namespace NS
open PySem PySem.Spec PyProof.Rows L2 DL
section
variable {P : Program} {w : World} {K : PySem.W.Frag} {mg : Str → Option Value} {base : Heap} {cl : Nat → Addr}
theorem t_Grid_gt_0 {f : Addr} (B : Bt mg) (L_Grid : ClS K cl 0 ["start", "width"]) (S_Grid_is_same : FM P w K mg base cl 1 0 "is_same" 2 m_Grid_is_same) (cdv : Value) (A : Around) (outer : List Env) (s : Shared) (H : Hp) (E : XK) (hr : Room 1 (A.deeper (envOfC "Grid.__gt__" (defScope s_Grid_gt) s.heap.objs.size f cdv))) :
    SS (cxOf CX0 P w K mg base ["self", "other", "wide"] "Grid.__gt__" (defScope s_Grid_gt) f cdv A outer s H E).nox cl ((defBody s_Grid_gt).getD 0 (.Pass ⟨0, 0, 0, 0⟩)) m_Grid_gt_0 := by
  exact (ss_set (i := 2) sc_Grid_gt.nd (se_and (se_eq hr.units (se_mod (se_int1 B.int (sa_cons (se_attr (c := 0) (i := 1) L_Grid (se_var (i := 0))) sa_nil)) (se_attr (c := 0) (i := 1) L_Grid (se_var (i := 1)))) se_int) (se_one (se_eq hr.units (se_mod (se_int1 B.int (sa_cons (se_sub (se_attr (c := 0) (i := 0) L_Grid (se_var (i := 0))) (se_attr (c := 0) (i := 0) L_Grid (se_var (i := 1)))) sa_nil)) (se_attr (c := 0) (i := 1) L_Grid (se_var (i := 1)))) se_int))))
theorem t_Grid_gt_1 {f : Addr} (B : Bt mg) (L_Grid : ClS K cl 0 ["start", "width"]) (S_Grid_is_same : FM P w K mg base cl 1 0 "is_same" 2 m_Grid_is_same) (cdv : Value) (A : Around) (outer : List Env) (s : Shared) (H : Hp) (E : XK) (hr : Room 1 (A.deeper (envOfC "Grid.__gt__" (defScope s_Grid_gt) s.heap.objs.size f cdv))) :
    SS (cxOf CX0 P w K mg base ["self", "other", "wide"] "Grid.__gt__" (defScope s_Grid_gt) f cdv A outer s H E).nox cl ((defBody s_Grid_gt).getD 1 (.Pass ⟨0, 0, 0, 0⟩)) m_Grid_gt_1 := by
  exact (ss_ret (se_and (se_var (i := 2)) (se_one (se_not (se_meth S_Grid_is_same.x hr (by decide) (se_var (i := 0)) (sa_cons (se_var (i := 1)) sa_nil))))))
theorem ok_Grid_gt {f : Addr} {fd : FuncData} (F : Fun K "__gt__" "Grid.__gt__" s_Grid_gt f fd) (B : Bt mg) (L_Grid : ClS K cl 0 ["start", "width"]) (S_Grid_is_same : FM P w K mg base cl 1 0 "is_same" 2 m_Grid_is_same) : FnOk P w K mg base CX0 2 f fd ["self", "other"] (spM K cl 2 m_Grid_gt) := by
  refine def_ok (N := ["self", "other", "wide"]) (n := 2) F sc_Grid_gt rfl (fun cdv A outer s H E hr => ?_)
  exact (sss_cons (t_Grid_gt_0 B L_Grid S_Grid_is_same cdv A outer s H E hr)
    (sss_one (t_Grid_gt_1 B L_Grid S_Grid_is_same cdv A outer s H E hr)))
theorem fa_Grid_gt {f : Addr} {fd : FuncData} (F : Fun K "__gt__" "Grid.__gt__" s_Grid_gt f fd) (B : Bt mg) (L_Grid : ClS K cl 0 ["start", "width"]) (S_Grid_is_same : FM P w K mg base cl 1 0 "is_same" 2 m_Grid_is_same) : FA P w K mg base cl 2 f 2 m_Grid_gt :=
  FA.of (ok_Grid_gt F B L_Grid S_Grid_is_same) (F.binds (ps := ["self", "other"]) fun _ _ _ _ _ _ us hl => match us, hl with | [_, _], _ => rfl) F.kp (fun rs μ z h => mDef_ar rs μ z h)
end
end NS
set_option Elab.async false
set_option linter.all false
set_option maxRecDepth 100000
set_option maxHeartbeats 4000000
namespace NS
open PySem PySem.Spec PyProof.Rows L2 DL
section
variable {P : Program} {w : World} {K : PySem.W.Frag} {mg : Str → Option Value} {base : Heap} {cl : Nat → Addr}
theorem t_Grid_lt_0 {f : Addr} (B : Bt mg) (S_Grid_is_finer : FM P w K mg base cl 2 0 "is_finer" 2 m_Grid_is_finer) (S_Grid_is_same : FM P w K mg base cl 1 0 "is_same" 2 m_Grid_is_same) (cdv : Value) (A : Around) (outer : List Env) (s : Shared) (H : Hp) (E : XK) (hr : Room 2 (A.deeper (envOfC "Grid.__lt__" (defScope s_Grid_lt) s.heap.objs.size f cdv))) :
    SS (cxOf CX0 P w K mg base ["self", "other"] "Grid.__lt__" (defScope s_Grid_lt) f cdv A outer s H E).nox cl ((defBody s_Grid_lt).getD 0 (.Pass ⟨0, 0, 0, 0⟩)) m_Grid_lt_0 := by
  exact (ss_ret (se_and (se_meth S_Grid_is_finer.x hr (by decide) (se_var (i := 0)) (sa_cons (se_var (i := 1)) sa_nil)) (se_one (se_not (se_meth S_Grid_is_same.x hr (by decide) (se_var (i := 0)) (sa_cons (se_var (i := 1)) sa_nil))))))
theorem ok_Grid_lt {f : Addr} {fd : FuncData} (F : Fun K "__lt__" "Grid.__lt__" s_Grid_lt f fd) (B : Bt mg) (S_Grid_is_finer : FM P w K mg base cl 2 0 "is_finer" 2 m_Grid_is_finer) (S_Grid_is_same : FM P w K mg base cl 1 0 "is_same" 2 m_Grid_is_same) : FnOk P w K mg base CX0 3 f fd ["self", "other"] (spM K cl 2 m_Grid_lt) := by
  refine def_ok (N := ["self", "other"]) (n := 2) F sc_Grid_lt rfl (fun cdv A outer s H E hr => ?_)
  exact (sss_one (t_Grid_lt_0 B S_Grid_is_finer S_Grid_is_same cdv A outer s H E hr))
theorem fa_Grid_lt {f : Addr} {fd : FuncData} (F : Fun K "__lt__" "Grid.__lt__" s_Grid_lt f fd) (B : Bt mg) (S_Grid_is_finer : FM P w K mg base cl 2 0 "is_finer" 2 m_Grid_is_finer) (S_Grid_is_same : FM P w K mg base cl 1 0 "is_same" 2 m_Grid_is_same) : FA P w K mg base cl 3 f 2 m_Grid_lt :=
  FA.of (ok_Grid_lt F B S_Grid_is_finer S_Grid_is_same) (F.binds (ps := ["self", "other"]) fun _ _ _ _ _ _ us hl => match us, hl with | [_, _], _ => rfl) F.kp (fun rs μ z h => mDef_ar rs μ z h)
end
end NS
set_option Elab.async false
set_option linter.all false
set_option maxRecDepth 100000
set_option maxHeartbeats 4000000
namespace NS
open PySem PySem.Spec PyProof.Rows L2 DL
section
variable {P : Program} {w : World} {K : PySem.W.Frag} {mg : Str → Option Value} {base : Heap} {cl : Nat → Addr}
theorem t_XGrid_or_0 {f : Addr} (B : Bt mg) (S_divisor : FS P w K mg base cl 1 "divisor" 2 m_divisor) (L_Grid : ClS K cl 0 ["start", "width"]) (ER_NoGrid : ErK P w K mg base cl 1 900 "NoGrid" 1 [("common", 0)]) (S_Grid_init : FI P w K mg base cl 1 0 "Grid" 3 m_Grid_init) (cdv : Value) (A : Around) (outer : List Env) (s : Shared) (H : Hp) (E : XK) (hr : Room 2 (A.deeper (envOfC "Grid.__or__" (defScope s_XGrid_or) s.heap.objs.size f cdv))) (tk : Takes (cxOf (L2.CX P w) P w K mg base ["self", "other", "common", "starts", "place", "meeting", "start"] "Grid.__or__" (defScope s_XGrid_or) f cdv A outer s H E) (fun cls d _ H' => E cls d H')) :
    SS (cxOf (L2.CX P w) P w K mg base ["self", "other", "common", "starts", "place", "meeting", "start"] "Grid.__or__" (defScope s_XGrid_or) f cdv A outer s H E) cl ((defBody s_XGrid_or).getD 0 (.Pass ⟨0, 0, 0, 0⟩)) m_XGrid_or_0 := by
  exact (ss_set (i := 2) sc_XGrid_or.nd (se_call S_divisor.x hr (by decide) (sa_cons (se_attr (c := 0) (i := 1) L_Grid (se_var (i := 0))) (sa_cons (se_attr (c := 0) (i := 1) L_Grid (se_var (i := 1))) sa_nil))))
theorem t_XGrid_or_1 {f : Addr} (B : Bt mg) (S_divisor : FS P w K mg base cl 1 "divisor" 2 m_divisor) (L_Grid : ClS K cl 0 ["start", "width"]) (ER_NoGrid : ErK P w K mg base cl 1 900 "NoGrid" 1 [("common", 0)]) (S_Grid_init : FI P w K mg base cl 1 0 "Grid" 3 m_Grid_init) (cdv : Value) (A : Around) (outer : List Env) (s : Shared) (H : Hp) (E : XK) (hr : Room 2 (A.deeper (envOfC "Grid.__or__" (defScope s_XGrid_or) s.heap.objs.size f cdv))) (tk : Takes (cxOf (L2.CX P w) P w K mg base ["self", "other", "common", "starts", "place", "meeting", "start"] "Grid.__or__" (defScope s_XGrid_or) f cdv A outer s H E) (fun cls d _ H' => E cls d H')) :
    SSX (cxOf (L2.CX P w) P w K mg base ["self", "other", "common", "starts", "place", "meeting", "start"] "Grid.__or__" (defScope s_XGrid_or) f cdv A outer s H E) cl (fun cls d _ H' => E cls d H') ((sub1 ((defBody s_XGrid_or).getD 1 (.Pass ⟨0, 0, 0, 0⟩))).getD 0 (.Pass ⟨0, 0, 0, 0⟩)) m_XGrid_or_1 := by
  exact (ss_raise rfl tk ER_NoGrid hr (by decide) (sa_cons (se_var (i := 2)) sa_nil))
theorem t_XGrid_or_2 {f : Addr} (B : Bt mg) (S_divisor : FS P w K mg base cl 1 "divisor" 2 m_divisor) (L_Grid : ClS K cl 0 ["start", "width"]) (ER_NoGrid : ErK P w K mg base cl 1 900 "NoGrid" 1 [("common", 0)]) (S_Grid_init : FI P w K mg base cl 1 0 "Grid" 3 m_Grid_init) (cdv : Value) (A : Around) (outer : List Env) (s : Shared) (H : Hp) (E : XK) (hr : Room 2 (A.deeper (envOfC "Grid.__or__" (defScope s_XGrid_or) s.heap.objs.size f cdv))) (tk : Takes (cxOf (L2.CX P w) P w K mg base ["self", "other", "common", "starts", "place", "meeting", "start"] "Grid.__or__" (defScope s_XGrid_or) f cdv A outer s H E) (fun cls d _ H' => E cls d H')) :
    SSX (cxOf (L2.CX P w) P w K mg base ["self", "other", "common", "starts", "place", "meeting", "start"] "Grid.__or__" (defScope s_XGrid_or) f cdv A outer s H E) cl (fun cls d _ H' => E cls d H') ((defBody s_XGrid_or).getD 1 (.Pass ⟨0, 0, 0, 0⟩)) m_XGrid_or_2 := by
  exact (ssx_if (st_ne hr.units (se_mod (se_int1 B.int (sa_cons (se_sub (se_attr (c := 0) (i := 0) L_Grid (se_var (i := 0))) (se_attr (c := 0) (i := 0) L_Grid (se_var (i := 1)))) sa_nil)) (se_var (i := 2))) se_int) (ssx_one (t_XGrid_or_1 B S_divisor L_Grid ER_NoGrid S_Grid_init cdv A outer s H E hr tk)) (sss_lft sss_nil))
theorem t_XGrid_or_4 {f : Addr} (B : Bt mg) (S_divisor : FS P w K mg base cl 1 "divisor" 2 m_divisor) (L_Grid : ClS K cl 0 ["start", "width"]) (ER_NoGrid : ErK P w K mg base cl 1 900 "NoGrid" 1 [("common", 0)]) (S_Grid_init : FI P w K mg base cl 1 0 "Grid" 3 m_Grid_init) (cdv : Value) (A : Around) (outer : List Env) (s : Shared) (H : Hp) (E : XK) (hr : Room 2 (A.deeper (envOfC "Grid.__or__" (defScope s_XGrid_or) s.heap.objs.size f cdv))) (tk : Takes (cxOf (L2.CX P w) P w K mg base ["self", "other", "common", "starts", "place", "meeting", "start"] "Grid.__or__" (defScope s_XGrid_or) f cdv A outer s H E) (fun cls d _ H' => E cls d H')) :
    SS (cxOf (L2.CX P w) P w K mg base ["self", "other", "common", "starts", "place", "meeting", "start"] "Grid.__or__" (defScope s_XGrid_or) f cdv A outer s H E) cl ((defBody s_XGrid_or).getD 2 (.Pass ⟨0, 0, 0, 0⟩)) m_XGrid_or_4 := by
  exact (ss_setLc (i := 3) (own := [("place", 4)]) sc_XGrid_or.nd (si_range1 B.range (sa_cons (se_attr (c := 0) (i := 1) L_Grid (se_var (i := 1))) sa_nil)) (sem_name (by decide)) (fun _ _ _ _ _ => (sg_name (cl := cl) (vs := [4]) (i := 4) sc_XGrid_or.nd).1) (fun _ _ _ _ _ => stt_nil) (fun _ _ _ _ _ => (se_add (se_attr (c := 0) (i := 0) L_Grid (se_var (i := 0))) (se_mul (se_var (i := 4)) (se_attr (c := 0) (i := 1) L_Grid (se_var (i := 0)))))) (blkOk_by (by kernel_rfl)) (sw_true rfl rfl rfl (by decide +kernel)))
theorem t_XGrid_or_7 {f : Addr} (B : Bt mg) (S_divisor : FS P w K mg base cl 1 "divisor" 2 m_divisor) (L_Grid : ClS K cl 0 ["start", "width"]) (ER_NoGrid : ErK P w K mg base cl 1 900 "NoGrid" 1 [("common", 0)]) (S_Grid_init : FI P w K mg base cl 1 0 "Grid" 3 m_Grid_init) (cdv : Value) (A : Around) (outer : List Env) (s : Shared) (H : Hp) (E : XK) (hr : Room 2 (A.deeper (envOfC "Grid.__or__" (defScope s_XGrid_or) s.heap.objs.size f cdv))) (tk : Takes (cxOf (L2.CX P w) P w K mg base ["self", "other", "common", "starts", "place", "meeting", "start"] "Grid.__or__" (defScope s_XGrid_or) f cdv A outer s H E) (fun cls d _ H' => E cls d H')) :
    SS (cxOf (L2.CX P w) P w K mg base ["self", "other", "common", "starts", "place", "meeting", "start"] "Grid.__or__" (defScope s_XGrid_or) f cdv A outer s H E) cl ((defBody s_XGrid_or).getD 3 (.Pass ⟨0, 0, 0, 0⟩)) m_XGrid_or_7 := by
  exact (ss_setLc (i := 5) (own := [("start", 6)]) sc_XGrid_or.nd (si_seq (se_var (i := 3))) (sem_name (by decide)) (fun _ _ _ _ _ => (sg_name (cl := cl) (vs := [6]) (i := 6) sc_XGrid_or.nd).1) (fun _ _ _ _ _ => (stt_one (st_eq hr.units (se_mod (se_int1 B.int (sa_cons (se_sub (se_var (i := 6)) (se_attr (c := 0) (i := 0) L_Grid (se_var (i := 1)))) sa_nil)) (se_attr (c := 0) (i := 1) L_Grid (se_var (i := 1)))) se_int))) (fun _ _ _ _ _ => (se_var (i := 6))) (blkOk_by (by kernel_rfl)) (sw_true rfl rfl rfl (by decide +kernel)))
theorem t_XGrid_or_8 {f : Addr} (B : Bt mg) (S_divisor : FS P w K mg base cl 1 "divisor" 2 m_divisor) (L_Grid : ClS K cl 0 ["start", "width"]) (ER_NoGrid : ErK P w K mg base cl 1 900 "NoGrid" 1 [("common", 0)]) (S_Grid_init : FI P w K mg base cl 1 0 "Grid" 3 m_Grid_init) (cdv : Value) (A : Around) (outer : List Env) (s : Shared) (H : Hp) (E : XK) (hr : Room 2 (A.deeper (envOfC "Grid.__or__" (defScope s_XGrid_or) s.heap.objs.size f cdv))) (tk : Takes (cxOf (L2.CX P w) P w K mg base ["self", "other", "common", "starts", "place", "meeting", "start"] "Grid.__or__" (defScope s_XGrid_or) f cdv A outer s H E) (fun cls d _ H' => E cls d H')) :
    SS (cxOf (L2.CX P w) P w K mg base ["self", "other", "common", "starts", "place", "meeting", "start"] "Grid.__or__" (defScope s_XGrid_or) f cdv A outer s H E) cl ((defBody s_XGrid_or).getD 4 (.Pass ⟨0, 0, 0, 0⟩)) m_XGrid_or_8 := by
  exact (ss_ret (se_make S_Grid_init hr (by decide) (sa_cons (se_mul (se_div (se_attr (c := 0) (i := 1) L_Grid (se_var (i := 0))) (se_var (i := 2))) (se_attr (c := 0) (i := 1) L_Grid (se_var (i := 1)))) (sa_cons (se_ix (se_var (i := 5)) se_int) sa_nil))))
theorem ok_XGrid_or {f : Addr} {fd : FuncData} (F : Fun K "__or__" "Grid.__or__" s_XGrid_or f fd) (B : Bt mg) (S_divisor : FS P w K mg base cl 1 "divisor" 2 m_divisor) (L_Grid : ClS K cl 0 ["start", "width"]) (ER_NoGrid : ErK P w K mg base cl 1 900 "NoGrid" 1 [("common", 0)]) (S_Grid_init : FI P w K mg base cl 1 0 "Grid" 3 m_Grid_init) : FnOk P w K mg base (L2.CX P w) 3 f fd ["self", "other"] (spMX K cl 2 m_XGrid_or) := by
  refine def_okX (N := ["self", "other", "common", "starts", "place", "meeting", "start"]) (n := 2) F sc_XGrid_or rfl (fun cdv A outer s H E hr tk => ?_)
  exact (ssx_cons (ss_lft (t_XGrid_or_0 B S_divisor L_Grid ER_NoGrid S_Grid_init cdv A outer s H E hr tk))
    (ssx_cons (t_XGrid_or_2 B S_divisor L_Grid ER_NoGrid S_Grid_init cdv A outer s H E hr tk)
    (sss_lft (sss_cons (t_XGrid_or_4 B S_divisor L_Grid ER_NoGrid S_Grid_init cdv A outer s H E hr tk)
    (sss_cons (t_XGrid_or_7 B S_divisor L_Grid ER_NoGrid S_Grid_init cdv A outer s H E hr tk)
    (sss_one (t_XGrid_or_8 B S_divisor L_Grid ER_NoGrid S_Grid_init cdv A outer s H E hr tk)))))))
theorem fx_XGrid_or_0 {f : Addr} {fd : FuncData} (F : Fun K "__or__" "Grid.__or__" s_XGrid_or f fd) (B : Bt mg) (S_divisor : FS P w K mg base cl 1 "divisor" 2 m_divisor) (L_Grid : ClS K cl 0 ["start", "width"]) (ER_NoGrid : ErK P w K mg base cl 1 900 "NoGrid" 1 [("common", 0)]) (S_Grid_init : FI P w K mg base cl 1 0 "Grid" 3 m_Grid_init) : FAX P w K mg base cl 3 f 2 m_XGrid_or 2 [] [0, 1] :=
  ⟨⟨fd, ["self", "other"], ok_XGrid_or F B S_divisor L_Grid ER_NoGrid S_Grid_init, kbn_of fun s us ws _ h1 h2 => by
    obtain ⟨oc, od, kV, doc, pm, an, cdv, ct, osl, rfl, lk, hcd⟩ := F.ex
    exact match us, h1, ws, h2 with | [_, _], _, [], _ => .of_eq rfl⟩, F.kp, fun rs μ z h => mDefX_ar rs μ z h⟩
end
end NS
set_option Elab.async false
set_option linter.all false
set_option maxRecDepth 100000
set_option maxHeartbeats 4000000
namespace NS
open PySem PySem.Spec PyProof.Rows L2 DL
section
variable {P : Program} {w : World} {K : PySem.W.Frag} {mg : Str → Option Value} {base : Heap} {cl : Nat → Addr}
theorem t_law_joined_0 {f : Addr} (B : Bt mg) (XM_law_joined_0 : XmK K cl [900] [900]) (EC_NoGrid : mg "NoGrid" = some (.ref (cl 900))) (KO_XGrid_or : FOX P w K mg base cl 3 0 .BitOr m_XGrid_or) (L_Grid : ClS K cl 0 ["start", "width"]) (XB_ValueError : IsX K cl (.type "ValueError") [(900, true)]) (BN_ValueError : mg "ValueError" = none) (XB_LookupError : IsX K cl (.type "LookupError") [(900, false)]) (BN_LookupError : mg "LookupError" = none) (XF_common : FlX K cl "common" [900]) (cdv : Value) (A : Around) (outer : List Env) (s : Shared) (H : Hp) (E : XK) (hr : Room 3 (A.deeper (envOfC "_law_joined" (defScope s_law_joined) s.heap.objs.size f cdv))) :
    SS (cxOf CX0 P w K mg base ["_law_mine", "_law_its", "_law_caught", "_law_got", "error"] "_law_joined" (defScope s_law_joined) f cdv A outer s H E).nox cl ((defBody s_law_joined).getD 0 (.Pass ⟨0, 0, 0, 0⟩)) m_law_joined_0 := by
  exact (ss_parT (ci := false) (cj := false) (i := 2) (j := 3) sc_law_joined.nd se_non se_non)
theorem t_law_joined_1 {f : Addr} (B : Bt mg) (XM_law_joined_0 : XmK K cl [900] [900]) (EC_NoGrid : mg "NoGrid" = some (.ref (cl 900))) (KO_XGrid_or : FOX P w K mg base cl 3 0 .BitOr m_XGrid_or) (L_Grid : ClS K cl 0 ["start", "width"]) (XB_ValueError : IsX K cl (.type "ValueError") [(900, true)]) (BN_ValueError : mg "ValueError" = none) (XB_LookupError : IsX K cl (.type "LookupError") [(900, false)]) (BN_LookupError : mg "LookupError" = none) (XF_common : FlX K cl "common" [900]) (cdv : Value) (A : Around) (outer : List Env) (s : Shared) (H : Hp) (E : XK) (hr : Room 3 (A.deeper (envOfC "_law_joined" (defScope s_law_joined) s.heap.objs.size f cdv))) :
    SS (cxOf CX0 P w K mg base ["_law_mine", "_law_its", "_law_caught", "_law_got", "error"] "_law_joined" (defScope s_law_joined) f cdv A outer s H E).nox cl ((defBody s_law_joined).getD 1 (.Pass ⟨0, 0, 0, 0⟩)) m_law_joined_1 := by
  exact (ss_tryK rfl rfl rfl sc_law_joined.nd (XM_law_joined_0.test1 EC_NoGrid) (fun W pn xe tk => (ssx_one (ssx_set (i := 3) sc_law_joined.nd (se_binX tk KO_XGrid_or hr (by decide) (se_var (i := 0)) (se_var (i := 1)))))))
theorem t_law_joined_2 {f : Addr} (B : Bt mg) (XM_law_joined_0 : XmK K cl [900] [900]) (EC_NoGrid : mg "NoGrid" = some (.ref (cl 900))) (KO_XGrid_or : FOX P w K mg base cl 3 0 .BitOr m_XGrid_or) (L_Grid : ClS K cl 0 ["start", "width"]) (XB_ValueError : IsX K cl (.type "ValueError") [(900, true)]) (BN_ValueError : mg "ValueError" = none) (XB_LookupError : IsX K cl (.type "LookupError") [(900, false)]) (BN_LookupError : mg "LookupError" = none) (XF_common : FlX K cl "common" [900]) (cdv : Value) (A : Around) (outer : List Env) (s : Shared) (H : Hp) (E : XK) (hr : Room 3 (A.deeper (envOfC "_law_joined" (defScope s_law_joined) s.heap.objs.size f cdv))) :
    SS (cxOf CX0 P w K mg base ["_law_mine", "_law_its", "_law_caught", "_law_got", "error"] "_law_joined" (defScope s_law_joined) f cdv A outer s H E).nox cl ((sub1 ((defBody s_law_joined).getD 2 (.Pass ⟨0, 0, 0, 0⟩))).getD 0 (.Pass ⟨0, 0, 0, 0⟩)) m_law_joined_2 := by
  exact (ss_ret (se_tup (sa_cons (se_attr (c := 0) (i := 1) L_Grid (se_var (i := 3))) (sa_cons (se_attr (c := 0) (i := 0) L_Grid (se_var (i := 3))) sa_nil))))
theorem t_law_joined_3 {f : Addr} (B : Bt mg) (XM_law_joined_0 : XmK K cl [900] [900]) (EC_NoGrid : mg "NoGrid" = some (.ref (cl 900))) (KO_XGrid_or : FOX P w K mg base cl 3 0 .BitOr m_XGrid_or) (L_Grid : ClS K cl 0 ["start", "width"]) (XB_ValueError : IsX K cl (.type "ValueError") [(900, true)]) (BN_ValueError : mg "ValueError" = none) (XB_LookupError : IsX K cl (.type "LookupError") [(900, false)]) (BN_LookupError : mg "LookupError" = none) (XF_common : FlX K cl "common" [900]) (cdv : Value) (A : Around) (outer : List Env) (s : Shared) (H : Hp) (E : XK) (hr : Room 3 (A.deeper (envOfC "_law_joined" (defScope s_law_joined) s.heap.objs.size f cdv))) :
    SS (cxOf CX0 P w K mg base ["_law_mine", "_law_its", "_law_caught", "_law_got", "error"] "_law_joined" (defScope s_law_joined) f cdv A outer s H E).nox cl ((defBody s_law_joined).getD 2 (.Pass ⟨0, 0, 0, 0⟩)) m_law_joined_3 := by
  exact (ss_if (st_isN (se_var (i := 2)) se_non) (sss_one (t_law_joined_2 B XM_law_joined_0 EC_NoGrid KO_XGrid_or L_Grid XB_ValueError BN_ValueError XB_LookupError BN_LookupError XF_common cdv A outer s H E hr)) sss_nil)
theorem t_law_joined_4 {f : Addr} (B : Bt mg) (XM_law_joined_0 : XmK K cl [900] [900]) (EC_NoGrid : mg "NoGrid" = some (.ref (cl 900))) (KO_XGrid_or : FOX P w K mg base cl 3 0 .BitOr m_XGrid_or) (L_Grid : ClS K cl 0 ["start", "width"]) (XB_ValueError : IsX K cl (.type "ValueError") [(900, true)]) (BN_ValueError : mg "ValueError" = none) (XB_LookupError : IsX K cl (.type "LookupError") [(900, false)]) (BN_LookupError : mg "LookupError" = none) (XF_common : FlX K cl "common" [900]) (cdv : Value) (A : Around) (outer : List Env) (s : Shared) (H : Hp) (E : XK) (hr : Room 3 (A.deeper (envOfC "_law_joined" (defScope s_law_joined) s.heap.objs.size f cdv))) :
    SS (cxOf CX0 P w K mg base ["_law_mine", "_law_its", "_law_caught", "_law_got", "error"] "_law_joined" (defScope s_law_joined) f cdv A outer s H E).nox cl ((defBody s_law_joined).getD 3 (.Pass ⟨0, 0, 0, 0⟩)) m_law_joined_4 := by
  exact (ss_ret (se_if (st_w (sw_and (st_val (se_isXB XB_ValueError BN_ValueError (by first | rfl | kernel_rfl) B.isinstance (se_var (i := 2)))) (sw_and1 (st_not (st_val (se_isXB XB_LookupError BN_LookupError (by first | rfl | kernel_rfl) B.isinstance (se_var (i := 2)))))))) (se_lst (sa_cons (se_fldX XF_common (se_var (i := 2))) sa_nil)) se_non))
theorem ok_law_joined {f : Addr} {fd : FuncData} (F : Fun K "_law_joined" "_law_joined" s_law_joined f fd) (B : Bt mg) (XM_law_joined_0 : XmK K cl [900] [900]) (EC_NoGrid : mg "NoGrid" = some (.ref (cl 900))) (KO_XGrid_or : FOX P w K mg base cl 3 0 .BitOr m_XGrid_or) (L_Grid : ClS K cl 0 ["start", "width"]) (XB_ValueError : IsX K cl (.type "ValueError") [(900, true)]) (BN_ValueError : mg "ValueError" = none) (XB_LookupError : IsX K cl (.type "LookupError") [(900, false)]) (BN_LookupError : mg "LookupError" = none) (XF_common : FlX K cl "common" [900]) : FnOk P w K mg base CX0 4 f fd ["_law_mine", "_law_its"] (spM K cl 2 m_law_joined) := by
  refine def_ok (N := ["_law_mine", "_law_its", "_law_caught", "_law_got", "error"]) (n := 2) F sc_law_joined rfl (fun cdv A outer s H E hr => ?_)
  exact (sss_cons (t_law_joined_0 B XM_law_joined_0 EC_NoGrid KO_XGrid_or L_Grid XB_ValueError BN_ValueError XB_LookupError BN_LookupError XF_common cdv A outer s H E hr)
    (sss_cons (t_law_joined_1 B XM_law_joined_0 EC_NoGrid KO_XGrid_or L_Grid XB_ValueError BN_ValueError XB_LookupError BN_LookupError XF_common cdv A outer s H E hr)
    (sss_cons (t_law_joined_3 B XM_law_joined_0 EC_NoGrid KO_XGrid_or L_Grid XB_ValueError BN_ValueError XB_LookupError BN_LookupError XF_common cdv A outer s H E hr)
    (sss_one (t_law_joined_4 B XM_law_joined_0 EC_NoGrid KO_XGrid_or L_Grid XB_ValueError BN_ValueError XB_LookupError BN_LookupError XF_common cdv A outer s H E hr)))))
theorem fs_law_joined {f : Addr} {fd : FuncData} (F : Fun K "_law_joined" "_law_joined" s_law_joined f fd) (hm : mg "_law_joined" = some (.ref f)) (B : Bt mg) (XM_law_joined_0 : XmK K cl [900] [900]) (EC_NoGrid : mg "NoGrid" = some (.ref (cl 900))) (KO_XGrid_or : FOX P w K mg base cl 3 0 .BitOr m_XGrid_or) (L_Grid : ClS K cl 0 ["start", "width"]) (XB_ValueError : IsX K cl (.type "ValueError") [(900, true)]) (BN_ValueError : mg "ValueError" = none) (XB_LookupError : IsX K cl (.type "LookupError") [(900, false)]) (BN_LookupError : mg "LookupError" = none) (XF_common : FlX K cl "common" [900]) : FS P w K mg base cl 4 "_law_joined" 2 m_law_joined :=
  ⟨⟨f, fd, ["_law_mine", "_law_its"], ok_law_joined F B XM_law_joined_0 EC_NoGrid KO_XGrid_or L_Grid XB_ValueError BN_ValueError XB_LookupError BN_LookupError XF_common, hm, F.kp, F.binds (ps := ["_law_mine", "_law_its"]) fun _ _ _ _ _ _ us hl => match us, hl with | [_, _], _ => rfl, rfl⟩, fun rs μ z h => mDef_ar rs μ z h⟩
end
end NS
set_option Elab.async false
set_option linter.all false
set_option maxRecDepth 100000
set_option maxHeartbeats 4000000
namespace NS
open PySem PySem.Spec PyProof.Rows L2 DL
section
variable {P : Program} {w : World} {K : PySem.W.Frag} {mg : Str → Option Value} {base : Heap} {cl : Nat → Addr}
theorem t_law_same_0 {f : Addr} (B : Bt mg) {j : Nat} (S_law_same : FS P w K mg base cl (0 + j + 1) "_law_same" 2 (m_law_same j)) (cdv : Value) (A : Around) (outer : List Env) (s : Shared) (H : Hp) (E : XK) (hr : Room (0 + j + 1) (A.deeper (envOfC "_law_same" (defScope s_law_same) s.heap.objs.size f cdv))) :
    SS (cxOf CX0 P w K mg base ["_law_got", "_law_due", "_law_mine", "_law_its"] "_law_same" (defScope s_law_same) f cdv A outer s H E).nox cl ((sub1 ((sub1 ((defBody s_law_same).getD 0 (.Pass ⟨0, 0, 0, 0⟩))).getD 0 (.Pass ⟨0, 0, 0, 0⟩))).getD 0 (.Pass ⟨0, 0, 0, 0⟩)) (m_law_same_0 (m_law_same j)) := by
  exact (ss_ret se_bl)
theorem t_law_same_1 {f : Addr} (B : Bt mg) {j : Nat} (S_law_same : FS P w K mg base cl (0 + j + 1) "_law_same" 2 (m_law_same j)) (cdv : Value) (A : Around) (outer : List Env) (s : Shared) (H : Hp) (E : XK) (hr : Room (0 + j + 1) (A.deeper (envOfC "_law_same" (defScope s_law_same) s.heap.objs.size f cdv))) :
    SS (cxOf CX0 P w K mg base ["_law_got", "_law_due", "_law_mine", "_law_its"] "_law_same" (defScope s_law_same) f cdv A outer s H E).nox cl ((sub1 ((defBody s_law_same).getD 0 (.Pass ⟨0, 0, 0, 0⟩))).getD 0 (.Pass ⟨0, 0, 0, 0⟩)) (m_law_same_1 (m_law_same j)) := by
  exact (ss_if (st_w (sw_or (st_ne hr.units (se_isi B.isinstance B.list (by decide) boot_list' (se_var (i := 0))) (se_isi B.isinstance B.list (by decide) boot_list' (se_var (i := 1)))) (sw_or1 (st_ne hr.units (se_isi B.isinstance B.tuple (by decide) boot_tuple' (se_var (i := 0))) (se_isi B.isinstance B.tuple (by decide) boot_tuple' (se_var (i := 1))))))) (sss_one (t_law_same_0 B S_law_same cdv A outer s H E hr)) sss_nil)
theorem t_law_same_3 {f : Addr} (B : Bt mg) {j : Nat} (S_law_same : FS P w K mg base cl (0 + j + 1) "_law_same" 2 (m_law_same j)) (cdv : Value) (A : Around) (outer : List Env) (s : Shared) (H : Hp) (E : XK) (hr : Room (0 + j + 1) (A.deeper (envOfC "_law_same" (defScope s_law_same) s.heap.objs.size f cdv))) :
    SS (cxOf CX0 P w K mg base ["_law_got", "_law_due", "_law_mine", "_law_its"] "_law_same" (defScope s_law_same) f cdv A outer s H E).nox cl ((sub1 ((defBody s_law_same).getD 0 (.Pass ⟨0, 0, 0, 0⟩))).getD 1 (.Pass ⟨0, 0, 0, 0⟩)) (m_law_same_3 (m_law_same j)) := by
  exact (ss_ret (se_and (se_eq hr.units (se_len B.len (sa_cons (se_var (i := 0)) sa_nil)) (se_len B.len (sa_cons (se_var (i := 1)) sa_nil))) (se_one (se_all B.all (sa_cons (se_lc (own := [("_law_mine", 2), ("_law_its", 3)]) sc_law_same.nd (si_zip B.zip (sa_cons (se_var (i := 0)) (sa_cons (se_var (i := 1)) sa_nil))) (sem_pair (by decide) (by decide)) (fun _ _ _ _ _ => (sg_pair (cl := cl) (vs := [2, 3]) (i := 2) (j := 3) sc_law_same.nd).1) (fun _ _ _ _ _ => stt_nil) (fun _ _ _ _ _ => (se_call S_law_same.x hr (Nat.le_refl _) (sa_cons (se_var (i := 2)) (sa_cons (se_var (i := 3)) sa_nil)))) (blkOk_by (by kernel_rfl))) sa_nil)))))
theorem t_law_same_4 {f : Addr} (B : Bt mg) {j : Nat} (S_law_same : FS P w K mg base cl (0 + j + 1) "_law_same" 2 (m_law_same j)) (cdv : Value) (A : Around) (outer : List Env) (s : Shared) (H : Hp) (E : XK) (hr : Room (0 + j + 1) (A.deeper (envOfC "_law_same" (defScope s_law_same) s.heap.objs.size f cdv))) :
    SS (cxOf CX0 P w K mg base ["_law_got", "_law_due", "_law_mine", "_law_its"] "_law_same" (defScope s_law_same) f cdv A outer s H E).nox cl ((defBody s_law_same).getD 0 (.Pass ⟨0, 0, 0, 0⟩)) (m_law_same_4 (m_law_same j)) := by
  exact (ss_if (st_val (se_isi2 B.isinstance B.list B.tuple (by decide) (by decide) boot_list' boot_tuple' (se_var (i := 1)))) (sss_cons (t_law_same_1 B S_law_same cdv A outer s H E hr)
    (sss_one (t_law_same_3 B S_law_same cdv A outer s H E hr))) sss_nil)
theorem t_law_same_5 {f : Addr} (B : Bt mg) {j : Nat} (S_law_same : FS P w K mg base cl (0 + j + 1) "_law_same" 2 (m_law_same j)) (cdv : Value) (A : Around) (outer : List Env) (s : Shared) (H : Hp) (E : XK) (hr : Room (0 + j + 1) (A.deeper (envOfC "_law_same" (defScope s_law_same) s.heap.objs.size f cdv))) :
    SS (cxOf CX0 P w K mg base ["_law_got", "_law_due", "_law_mine", "_law_its"] "_law_same" (defScope s_law_same) f cdv A outer s H E).nox cl ((sub1 ((defBody s_law_same).getD 1 (.Pass ⟨0, 0, 0, 0⟩))).getD 0 (.Pass ⟨0, 0, 0, 0⟩)) (m_law_same_5 (m_law_same j)) := by
  exact (ss_ret (se_and (se_eq hr.units (se_var (i := 0)) (se_var (i := 1))) (se_and (se_eq hr.units (se_isi B.isinstance B.bool (by decide) boot_bool' (se_var (i := 0))) (se_isi B.isinstance B.bool (by decide) boot_bool' (se_var (i := 1)))) (se_one (se_eq hr.units (se_isN (se_var (i := 0)) se_non) (se_isN (se_var (i := 1)) se_non))))))
theorem t_law_same_6 {f : Addr} (B : Bt mg) {j : Nat} (S_law_same : FS P w K mg base cl (0 + j + 1) "_law_same" 2 (m_law_same j)) (cdv : Value) (A : Around) (outer : List Env) (s : Shared) (H : Hp) (E : XK) (hr : Room (0 + j + 1) (A.deeper (envOfC "_law_same" (defScope s_law_same) s.heap.objs.size f cdv))) :
    SS (cxOf CX0 P w K mg base ["_law_got", "_law_due", "_law_mine", "_law_its"] "_law_same" (defScope s_law_same) f cdv A outer s H E).nox cl ((defBody s_law_same).getD 1 (.Pass ⟨0, 0, 0, 0⟩)) (m_law_same_6 (m_law_same j)) := by
  exact (ss_if (st_w (sw_or (st_isN (se_var (i := 1)) se_non) (sw_or1 (st_val (se_isi2 B.isinstance B.bool B.str (by decide) (by decide) boot_bool' boot_str' (se_var (i := 1))))))) (sss_one (t_law_same_5 B S_law_same cdv A outer s H E hr)) sss_nil)
theorem t_law_same_7 {f : Addr} (B : Bt mg) {j : Nat} (S_law_same : FS P w K mg base cl (0 + j + 1) "_law_same" 2 (m_law_same j)) (cdv : Value) (A : Around) (outer : List Env) (s : Shared) (H : Hp) (E : XK) (hr : Room (0 + j + 1) (A.deeper (envOfC "_law_same" (defScope s_law_same) s.heap.objs.size f cdv))) :
    SS (cxOf CX0 P w K mg base ["_law_got", "_law_due", "_law_mine", "_law_its"] "_law_same" (defScope s_law_same) f cdv A outer s H E).nox cl ((defBody s_law_same).getD 2 (.Pass ⟨0, 0, 0, 0⟩)) (m_law_same_7 (m_law_same j)) := by
  exact (ss_ret (se_and (se_isi B.isinstance B.int (by decide) boot_int' (se_var (i := 0))) (se_and (se_not (se_isi B.isinstance B.bool (by decide) boot_bool' (se_var (i := 0)))) (se_one (se_eq hr.units (se_var (i := 0)) (se_var (i := 1)))))))
theorem ok_law_same {f : Addr} {fd : FuncData} (F : Fun K "_law_same" "_law_same" s_law_same f fd) (B : Bt mg) (hm : mg "_law_same" = some (.ref f)) (bn : Binds K fd ["_law_got", "_law_due"] []) : ∀ j : Nat, FnOk P w K mg base CX0 (0 + j + 1) f fd ["_law_got", "_law_due"] (spM K cl 2 (m_law_same j))
  | 0 => def_zero
  | j + 1 => by
    have S_law_same : FS P w K mg base cl (0 + j + 1) "_law_same" 2 (m_law_same j) := ⟨⟨f, fd, ["_law_got", "_law_due"], ok_law_same F B hm bn j, hm, F.kp, bn, rfl⟩, fun rs μ z h => by
      cases j with
      | zero => cases h
      | succ j => exact mDef_ar rs μ z h⟩
    refine def_ok (N := ["_law_got", "_law_due", "_law_mine", "_law_its"]) (n := 2) F sc_law_same rfl (fun cdv A outer s H E hr => ?_)
    exact (sss_cons (t_law_same_4 B S_law_same cdv A outer s H E hr)
    (sss_cons (t_law_same_6 B S_law_same cdv A outer s H E hr)
    (sss_one (t_law_same_7 B S_law_same cdv A outer s H E hr))))
theorem fs_law_same {f : Addr} {fd : FuncData} (F : Fun K "_law_same" "_law_same" s_law_same f fd) (hm : mg "_law_same" = some (.ref f)) (B : Bt mg) : FS P w K mg base cl 6 "_law_same" 2 (m_law_same 5) :=
  ⟨⟨f, fd, ["_law_got", "_law_due"], ok_law_same F B hm (F.binds (ps := ["_law_got", "_law_due"]) fun _ _ _ _ _ _ us hl => match us, hl with | [_, _], _ => rfl) 5, hm, F.kp, F.binds (ps := ["_law_got", "_law_due"]) fun _ _ _ _ _ _ us hl => match us, hl with | [_, _], _ => rfl, rfl⟩, fun rs μ z h => mDef_ar rs μ z h⟩
end
end NS
set_option Elab.async false
set_option linter.all false
set_option maxRecDepth 100000
set_option maxHeartbeats 4000000
namespace NS
open PySem PySem.Spec PyProof.Rows L2 DL
section
variable {P : Program} {w : World} {K : PySem.W.Frag} {mg : Str → Option Value} {base : Heap} {cl : Nat → Addr}
theorem t_law_hand_right_0 {f : Addr} (B : Bt mg) (S_Grid_init : FI P w K mg base cl 1 0 "Grid" 3 m_Grid_init) (DI_Grid_init : FID P w K mg base cl 1 0 "Grid" 3 m_Grid_init [.int 0]) (L_Grid : ClS K cl 0 ["start", "width"]) (O_Grid_and : FO P w K mg base cl 3 0 .BitAnd m_Grid_and) (O_Grid_or : FO P w K mg base cl 3 0 .BitOr m_Grid_or) (CM_Grid_eq_Eq : FCm P w K mg base cl 2 0 1 .Eq m_Grid_eq) (RM_Grid_eq_Eq : FRm P w K mg base cl 2 0 .Eq m_Grid_eq) (CM_Grid_le_LtE : FCm P w K mg base cl 3 0 1 .LtE m_Grid_le) (RM_Grid_ge_LtE : FRm P w K mg base cl 1 0 .LtE m_Grid_ge) (CM_Grid_gt_Gt : FCm P w K mg base cl 2 0 1 .Gt m_Grid_gt) (RM_Grid_lt_Gt : FRm P w K mg base cl 3 0 .Gt m_Grid_lt) (CM_Grid_lt_Lt : FCm P w K mg base cl 3 0 1 .Lt m_Grid_lt) (RM_Grid_gt_Lt : FRm P w K mg base cl 2 0 .Lt m_Grid_gt) (S_law_joined : FS P w K mg base cl 4 "_law_joined" 2 m_law_joined) (S_law_same : FS P w K mg base cl 6 "_law_same" 2 (m_law_same 5)) (cdv : Value) (A : Around) (outer : List Env) (s : Shared) (H : Hp) (E : XK) (hr : Room 6 (A.deeper (envOfC "_law_hand_right" (defScope s_law_hand_right) s.heap.objs.size f cdv))) :
    SS (cxOf CX0 P w K mg base ["_law_four", "_law_six", "_law_got", "_law_due"] "_law_hand_right" (defScope s_law_hand_right) f cdv A outer s H E).nox cl ((defBody s_law_hand_right).getD 0 (.Pass ⟨0, 0, 0, 0⟩)) m_law_hand_right_0 := by
  exact (ss_par (ci := false) (cj := false) (i := 0) (j := 1) sc_law_hand_right.nd (se_makeD DI_Grid_init hr (by decide) (sa_cons se_int sa_nil)) (se_make S_Grid_init hr (by decide) (sa_cons se_int (sa_cons se_int sa_nil))))
theorem t_law_hand_right_1 {f : Addr} (B : Bt mg) (S_Grid_init : FI P w K mg base cl 1 0 "Grid" 3 m_Grid_init) (DI_Grid_init : FID P w K mg base cl 1 0 "Grid" 3 m_Grid_init [.int 0]) (L_Grid : ClS K cl 0 ["start", "width"]) (O_Grid_and : FO P w K mg base cl 3 0 .BitAnd m_Grid_and) (O_Grid_or : FO P w K mg base cl 3 0 .BitOr m_Grid_or) (CM_Grid_eq_Eq : FCm P w K mg base cl 2 0 1 .Eq m_Grid_eq) (RM_Grid_eq_Eq : FRm P w K mg base cl 2 0 .Eq m_Grid_eq) (CM_Grid_le_LtE : FCm P w K mg base cl 3 0 1 .LtE m_Grid_le) (RM_Grid_ge_LtE : FRm P w K mg base cl 1 0 .LtE m_Grid_ge) (CM_Grid_gt_Gt : FCm P w K mg base cl 2 0 1 .Gt m_Grid_gt) (RM_Grid_lt_Gt : FRm P w K mg base cl 3 0 .Gt m_Grid_lt) (CM_Grid_lt_Lt : FCm P w K mg base cl 3 0 1 .Lt m_Grid_lt) (RM_Grid_gt_Lt : FRm P w K mg base cl 2 0 .Lt m_Grid_gt) (S_law_joined : FS P w K mg base cl 4 "_law_joined" 2 m_law_joined) (S_law_same : FS P w K mg base cl 6 "_law_same" 2 (m_law_same 5)) (cdv : Value) (A : Around) (outer : List Env) (s : Shared) (H : Hp) (E : XK) (hr : Room 6 (A.deeper (envOfC "_law_hand_right" (defScope s_law_hand_right) s.heap.objs.size f cdv))) :
    SS (cxOf CX0 P w K mg base ["_law_four", "_law_six", "_law_got", "_law_due"] "_law_hand_right" (defScope s_law_hand_right) f cdv A outer s H E).nox cl ((defBody s_law_hand_right).getD 1 (.Pass ⟨0, 0, 0, 0⟩)) m_law_hand_right_1 := by
  exact (ss_set (i := 2) sc_law_hand_right.nd (se_lst (sa_cons (se_attr (c := 0) (i := 1) L_Grid (se_bin O_Grid_or.cx hr (by decide) (se_var (i := 0)) (se_var (i := 1)))) (sa_cons (se_attr (c := 0) (i := 0) L_Grid (se_bin O_Grid_or.cx hr (by decide) (se_var (i := 0)) (se_var (i := 1)))) (sa_cons (se_attr (c := 0) (i := 1) L_Grid (se_bin O_Grid_and.cx hr (by decide) (se_var (i := 0)) (se_var (i := 1)))) (sa_cons (se_attr (c := 0) (i := 0) L_Grid (se_bin O_Grid_and.cx hr (by decide) (se_var (i := 0)) (se_var (i := 1)))) sa_nil))))))
theorem t_law_hand_right_2 {f : Addr} (B : Bt mg) (S_Grid_init : FI P w K mg base cl 1 0 "Grid" 3 m_Grid_init) (DI_Grid_init : FID P w K mg base cl 1 0 "Grid" 3 m_Grid_init [.int 0]) (L_Grid : ClS K cl 0 ["start", "width"]) (O_Grid_and : FO P w K mg base cl 3 0 .BitAnd m_Grid_and) (O_Grid_or : FO P w K mg base cl 3 0 .BitOr m_Grid_or) (CM_Grid_eq_Eq : FCm P w K mg base cl 2 0 1 .Eq m_Grid_eq) (RM_Grid_eq_Eq : FRm P w K mg base cl 2 0 .Eq m_Grid_eq) (CM_Grid_le_LtE : FCm P w K mg base cl 3 0 1 .LtE m_Grid_le) (RM_Grid_ge_LtE : FRm P w K mg base cl 1 0 .LtE m_Grid_ge) (CM_Grid_gt_Gt : FCm P w K mg base cl 2 0 1 .Gt m_Grid_gt) (RM_Grid_lt_Gt : FRm P w K mg base cl 3 0 .Gt m_Grid_lt) (CM_Grid_lt_Lt : FCm P w K mg base cl 3 0 1 .Lt m_Grid_lt) (RM_Grid_gt_Lt : FRm P w K mg base cl 2 0 .Lt m_Grid_gt) (S_law_joined : FS P w K mg base cl 4 "_law_joined" 2 m_law_joined) (S_law_same : FS P w K mg base cl 6 "_law_same" 2 (m_law_same 5)) (cdv : Value) (A : Around) (outer : List Env) (s : Shared) (H : Hp) (E : XK) (hr : Room 6 (A.deeper (envOfC "_law_hand_right" (defScope s_law_hand_right) s.heap.objs.size f cdv))) :
    SS (cxOf CX0 P w K mg base ["_law_four", "_law_six", "_law_got", "_law_due"] "_law_hand_right" (defScope s_law_hand_right) f cdv A outer s H E).nox cl ((defBody s_law_hand_right).getD 2 (.Pass ⟨0, 0, 0, 0⟩)) m_law_hand_right_2 := by
  exact (ss_set (i := 2) sc_law_hand_right.nd (se_add (se_var (i := 2)) (se_lst (sa_cons (se_cG (CmpG.or cmp_leB (CmpG.or (cmpI (fun _ _ => rfl) CM_Grid_le_LtE.cx hr (by decide)) (cmpN (fun _ _ => rfl) PySem.F.slot_int_le dec_le RM_Grid_ge_LtE.cx hr (by decide)))) (se_var (i := 0)) (se_var (i := 1))) (sa_cons (se_cG (CmpG.or (cmp_eqB hr.units) (CmpG.or (cmpI (fun _ _ => rfl) CM_Grid_eq_Eq.cx hr (by decide)) (cmpN (fun _ _ => rfl) PySem.F.slot_int_eq dec_eq RM_Grid_eq_Eq.cx hr (by decide)))) (se_bin O_Grid_and.cx hr (by decide) (se_var (i := 0)) (se_var (i := 0))) (se_var (i := 0))) sa_nil)))))
theorem t_law_hand_right_3 {f : Addr} (B : Bt mg) (S_Grid_init : FI P w K mg base cl 1 0 "Grid" 3 m_Grid_init) (DI_Grid_init : FID P w K mg base cl 1 0 "Grid" 3 m_Grid_init [.int 0]) (L_Grid : ClS K cl 0 ["start", "width"]) (O_Grid_and : FO P w K mg base cl 3 0 .BitAnd m_Grid_and) (O_Grid_or : FO P w K mg base cl 3 0 .BitOr m_Grid_or) (CM_Grid_eq_Eq : FCm P w K mg base cl 2 0 1 .Eq m_Grid_eq) (RM_Grid_eq_Eq : FRm P w K mg base cl 2 0 .Eq m_Grid_eq) (CM_Grid_le_LtE : FCm P w K mg base cl 3 0 1 .LtE m_Grid_le) (RM_Grid_ge_LtE : FRm P w K mg base cl 1 0 .LtE m_Grid_ge) (CM_Grid_gt_Gt : FCm P w K mg base cl 2 0 1 .Gt m_Grid_gt) (RM_Grid_lt_Gt : FRm P w K mg base cl 3 0 .Gt m_Grid_lt) (CM_Grid_lt_Lt : FCm P w K mg base cl 3 0 1 .Lt m_Grid_lt) (RM_Grid_gt_Lt : FRm P w K mg base cl 2 0 .Lt m_Grid_gt) (S_law_joined : FS P w K mg base cl 4 "_law_joined" 2 m_law_joined) (S_law_same : FS P w K mg base cl 6 "_law_same" 2 (m_law_same 5)) (cdv : Value) (A : Around) (outer : List Env) (s : Shared) (H : Hp) (E : XK) (hr : Room 6 (A.deeper (envOfC "_law_hand_right" (defScope s_law_hand_right) s.heap.objs.size f cdv))) :
    SS (cxOf CX0 P w K mg base ["_law_four", "_law_six", "_law_got", "_law_due"] "_law_hand_right" (defScope s_law_hand_right) f cdv A outer s H E).nox cl ((defBody s_law_hand_right).getD 3 (.Pass ⟨0, 0, 0, 0⟩)) m_law_hand_right_3 := by
  exact (ss_set (i := 2) sc_law_hand_right.nd (se_add (se_var (i := 2)) (se_lst (sa_cons (se_cG (CmpG.or cmp_leB (CmpG.or (cmpI (fun _ _ => rfl) CM_Grid_le_LtE.cx hr (by decide)) (cmpN (fun _ _ => rfl) PySem.F.slot_int_le dec_le RM_Grid_ge_LtE.cx hr (by decide)))) (se_makeD DI_Grid_init hr (by decide) (sa_cons se_int sa_nil)) (se_make S_Grid_init hr (by decide) (sa_cons se_int (sa_cons se_int sa_nil)))) (sa_cons (se_cG (CmpG.or (cmp_ltB hr.units) (CmpG.or (cmpI (fun _ _ => rfl) CM_Grid_lt_Lt.cx hr (by decide)) (cmpN (fun _ _ => rfl) PySem.F.slot_int_lt dec_lt RM_Grid_gt_Lt.cx hr (by decide)))) (se_makeD DI_Grid_init hr (by decide) (sa_cons se_int sa_nil)) (se_make S_Grid_init hr (by decide) (sa_cons se_int (sa_cons se_int sa_nil)))) (sa_cons (se_cG (CmpG.or cmp_leB (CmpG.or (cmpI (fun _ _ => rfl) CM_Grid_le_LtE.cx hr (by decide)) (cmpN (fun _ _ => rfl) PySem.F.slot_int_le dec_le RM_Grid_ge_LtE.cx hr (by decide)))) (se_makeD DI_Grid_init hr (by decide) (sa_cons se_int sa_nil)) (se_var (i := 0))) (sa_cons (se_cG (CmpG.or cmp_leB (CmpG.or (cmpI (fun _ _ => rfl) CM_Grid_le_LtE.cx hr (by decide)) (cmpN (fun _ _ => rfl) PySem.F.slot_int_le dec_le RM_Grid_ge_LtE.cx hr (by decide)))) (se_var (i := 0)) (se_makeD DI_Grid_init hr (by decide) (sa_cons se_int sa_nil))) (sa_cons (se_cG (CmpG.or cmp_gtB (CmpG.or (cmpI (fun _ _ => rfl) CM_Grid_gt_Gt.cx hr (by decide)) (cmpN (fun _ _ => rfl) PySem.F.slot_int_gt dec_gt RM_Grid_lt_Gt.cx hr (by decide)))) (se_var (i := 0)) (se_makeD DI_Grid_init hr (by decide) (sa_cons se_int sa_nil))) sa_nil))))))))
theorem t_law_hand_right_4 {f : Addr} (B : Bt mg) (S_Grid_init : FI P w K mg base cl 1 0 "Grid" 3 m_Grid_init) (DI_Grid_init : FID P w K mg base cl 1 0 "Grid" 3 m_Grid_init [.int 0]) (L_Grid : ClS K cl 0 ["start", "width"]) (O_Grid_and : FO P w K mg base cl 3 0 .BitAnd m_Grid_and) (O_Grid_or : FO P w K mg base cl 3 0 .BitOr m_Grid_or) (CM_Grid_eq_Eq : FCm P w K mg base cl 2 0 1 .Eq m_Grid_eq) (RM_Grid_eq_Eq : FRm P w K mg base cl 2 0 .Eq m_Grid_eq) (CM_Grid_le_LtE : FCm P w K mg base cl 3 0 1 .LtE m_Grid_le) (RM_Grid_ge_LtE : FRm P w K mg base cl 1 0 .LtE m_Grid_ge) (CM_Grid_gt_Gt : FCm P w K mg base cl 2 0 1 .Gt m_Grid_gt) (RM_Grid_lt_Gt : FRm P w K mg base cl 3 0 .Gt m_Grid_lt) (CM_Grid_lt_Lt : FCm P w K mg base cl 3 0 1 .Lt m_Grid_lt) (RM_Grid_gt_Lt : FRm P w K mg base cl 2 0 .Lt m_Grid_gt) (S_law_joined : FS P w K mg base cl 4 "_law_joined" 2 m_law_joined) (S_law_same : FS P w K mg base cl 6 "_law_same" 2 (m_law_same 5)) (cdv : Value) (A : Around) (outer : List Env) (s : Shared) (H : Hp) (E : XK) (hr : Room 6 (A.deeper (envOfC "_law_hand_right" (defScope s_law_hand_right) s.heap.objs.size f cdv))) :
    SS (cxOf CX0 P w K mg base ["_law_four", "_law_six", "_law_got", "_law_due"] "_law_hand_right" (defScope s_law_hand_right) f cdv A outer s H E).nox cl ((defBody s_law_hand_right).getD 4 (.Pass ⟨0, 0, 0, 0⟩)) m_law_hand_right_4 := by
  exact (ss_set (i := 3) sc_law_hand_right.nd (se_lst (sa_cons se_int (sa_cons se_int (sa_cons se_int (sa_cons se_int (sa_cons se_bl (sa_cons se_bl (sa_cons se_bl (sa_cons se_bl (sa_cons se_bl (sa_cons se_bl (sa_cons se_bl sa_nil)))))))))))))
theorem t_law_hand_right_5 {f : Addr} (B : Bt mg) (S_Grid_init : FI P w K mg base cl 1 0 "Grid" 3 m_Grid_init) (DI_Grid_init : FID P w K mg base cl 1 0 "Grid" 3 m_Grid_init [.int 0]) (L_Grid : ClS K cl 0 ["start", "width"]) (O_Grid_and : FO P w K mg base cl 3 0 .BitAnd m_Grid_and) (O_Grid_or : FO P w K mg base cl 3 0 .BitOr m_Grid_or) (CM_Grid_eq_Eq : FCm P w K mg base cl 2 0 1 .Eq m_Grid_eq) (RM_Grid_eq_Eq : FRm P w K mg base cl 2 0 .Eq m_Grid_eq) (CM_Grid_le_LtE : FCm P w K mg base cl 3 0 1 .LtE m_Grid_le) (RM_Grid_ge_LtE : FRm P w K mg base cl 1 0 .LtE m_Grid_ge) (CM_Grid_gt_Gt : FCm P w K mg base cl 2 0 1 .Gt m_Grid_gt) (RM_Grid_lt_Gt : FRm P w K mg base cl 3 0 .Gt m_Grid_lt) (CM_Grid_lt_Lt : FCm P w K mg base cl 3 0 1 .Lt m_Grid_lt) (RM_Grid_gt_Lt : FRm P w K mg base cl 2 0 .Lt m_Grid_gt) (S_law_joined : FS P w K mg base cl 4 "_law_joined" 2 m_law_joined) (S_law_same : FS P w K mg base cl 6 "_law_same" 2 (m_law_same 5)) (cdv : Value) (A : Around) (outer : List Env) (s : Shared) (H : Hp) (E : XK) (hr : Room 6 (A.deeper (envOfC "_law_hand_right" (defScope s_law_hand_right) s.heap.objs.size f cdv))) :
    SS (cxOf CX0 P w K mg base ["_law_four", "_law_six", "_law_got", "_law_due"] "_law_hand_right" (defScope s_law_hand_right) f cdv A outer s H E).nox cl ((defBody s_law_hand_right).getD 5 (.Pass ⟨0, 0, 0, 0⟩)) m_law_hand_right_5 := by
  exact (ss_set (i := 2) sc_law_hand_right.nd (se_add (se_var (i := 2)) (se_lst (sa_cons (se_call S_law_joined.x hr (by decide) (sa_cons (se_var (i := 0)) (sa_cons (se_make S_Grid_init hr (by decide) (sa_cons se_int (sa_cons se_int sa_nil))) sa_nil))) (sa_cons (se_call S_law_joined.x hr (by decide) (sa_cons (se_makeD DI_Grid_init hr (by decide) (sa_cons se_int sa_nil)) (sa_cons (se_make S_Grid_init hr (by decide) (sa_cons se_int (sa_cons se_int sa_nil))) sa_nil))) (sa_cons (se_attr (c := 0) (i := 1) L_Grid (se_bin O_Grid_and.cx hr (by decide) (se_var (i := 0)) (se_make S_Grid_init hr (by decide) (sa_cons se_int (sa_cons se_int sa_nil))))) sa_nil))))))
theorem t_law_hand_right_6 {f : Addr} (B : Bt mg) (S_Grid_init : FI P w K mg base cl 1 0 "Grid" 3 m_Grid_init) (DI_Grid_init : FID P w K mg base cl 1 0 "Grid" 3 m_Grid_init [.int 0]) (L_Grid : ClS K cl 0 ["start", "width"]) (O_Grid_and : FO P w K mg base cl 3 0 .BitAnd m_Grid_and) (O_Grid_or : FO P w K mg base cl 3 0 .BitOr m_Grid_or) (CM_Grid_eq_Eq : FCm P w K mg base cl 2 0 1 .Eq m_Grid_eq) (RM_Grid_eq_Eq : FRm P w K mg base cl 2 0 .Eq m_Grid_eq) (CM_Grid_le_LtE : FCm P w K mg base cl 3 0 1 .LtE m_Grid_le) (RM_Grid_ge_LtE : FRm P w K mg base cl 1 0 .LtE m_Grid_ge) (CM_Grid_gt_Gt : FCm P w K mg base cl 2 0 1 .Gt m_Grid_gt) (RM_Grid_lt_Gt : FRm P w K mg base cl 3 0 .Gt m_Grid_lt) (CM_Grid_lt_Lt : FCm P w K mg base cl 3 0 1 .Lt m_Grid_lt) (RM_Grid_gt_Lt : FRm P w K mg base cl 2 0 .Lt m_Grid_gt) (S_law_joined : FS P w K mg base cl 4 "_law_joined" 2 m_law_joined) (S_law_same : FS P w K mg base cl 6 "_law_same" 2 (m_law_same 5)) (cdv : Value) (A : Around) (outer : List Env) (s : Shared) (H : Hp) (E : XK) (hr : Room 6 (A.deeper (envOfC "_law_hand_right" (defScope s_law_hand_right) s.heap.objs.size f cdv))) :
    SS (cxOf CX0 P w K mg base ["_law_four", "_law_six", "_law_got", "_law_due"] "_law_hand_right" (defScope s_law_hand_right) f cdv A outer s H E).nox cl ((defBody s_law_hand_right).getD 6 (.Pass ⟨0, 0, 0, 0⟩)) m_law_hand_right_6 := by
  exact (ss_set (i := 3) sc_law_hand_right.nd (se_add (se_var (i := 3)) (se_lst (sa_cons (se_lst (sa_cons se_int sa_nil)) (sa_cons (se_tup (sa_cons se_int (sa_cons se_int sa_nil))) (sa_cons se_int sa_nil))))))
theorem t_law_hand_right_7 {f : Addr} (B : Bt mg) (S_Grid_init : FI P w K mg base cl 1 0 "Grid" 3 m_Grid_init) (DI_Grid_init : FID P w K mg base cl 1 0 "Grid" 3 m_Grid_init [.int 0]) (L_Grid : ClS K cl 0 ["start", "width"]) (O_Grid_and : FO P w K mg base cl 3 0 .BitAnd m_Grid_and) (O_Grid_or : FO P w K mg base cl 3 0 .BitOr m_Grid_or) (CM_Grid_eq_Eq : FCm P w K mg base cl 2 0 1 .Eq m_Grid_eq) (RM_Grid_eq_Eq : FRm P w K mg base cl 2 0 .Eq m_Grid_eq) (CM_Grid_le_LtE : FCm P w K mg base cl 3 0 1 .LtE m_Grid_le) (RM_Grid_ge_LtE : FRm P w K mg base cl 1 0 .LtE m_Grid_ge) (CM_Grid_gt_Gt : FCm P w K mg base cl 2 0 1 .Gt m_Grid_gt) (RM_Grid_lt_Gt : FRm P w K mg base cl 3 0 .Gt m_Grid_lt) (CM_Grid_lt_Lt : FCm P w K mg base cl 3 0 1 .Lt m_Grid_lt) (RM_Grid_gt_Lt : FRm P w K mg base cl 2 0 .Lt m_Grid_gt) (S_law_joined : FS P w K mg base cl 4 "_law_joined" 2 m_law_joined) (S_law_same : FS P w K mg base cl 6 "_law_same" 2 (m_law_same 5)) (cdv : Value) (A : Around) (outer : List Env) (s : Shared) (H : Hp) (E : XK) (hr : Room 6 (A.deeper (envOfC "_law_hand_right" (defScope s_law_hand_right) s.heap.objs.size f cdv))) :
    SS (cxOf CX0 P w K mg base ["_law_four", "_law_six", "_law_got", "_law_due"] "_law_hand_right" (defScope s_law_hand_right) f cdv A outer s H E).nox cl ((defBody s_law_hand_right).getD 7 (.Pass ⟨0, 0, 0, 0⟩)) m_law_hand_right_7 := by
  exact (ss_set (i := 2) sc_law_hand_right.nd (se_add (se_var (i := 2)) (se_lst (sa_cons (se_attr (c := 0) (i := 1) L_Grid (se_bin O_Grid_or.cx hr (by decide) (se_make S_Grid_init hr (by decide) (sa_cons se_int (sa_cons se_int sa_nil))) (se_make S_Grid_init hr (by decide) (sa_cons se_int (sa_cons se_int sa_nil))))) (sa_cons (se_cG (CmpG.or cmp_leB (CmpG.or (cmpI (fun _ _ => rfl) CM_Grid_le_LtE.cx hr (by decide)) (cmpN (fun _ _ => rfl) PySem.F.slot_int_le dec_le RM_Grid_ge_LtE.cx hr (by decide)))) (se_make S_Grid_init hr (by decide) (sa_cons se_int (sa_cons se_int sa_nil))) (se_bin O_Grid_or.cx hr (by decide) (se_make S_Grid_init hr (by decide) (sa_cons se_int (sa_cons se_int sa_nil))) (se_make S_Grid_init hr (by decide) (sa_cons se_int (sa_cons se_int sa_nil))))) sa_nil)))))
theorem t_law_hand_right_8 {f : Addr} (B : Bt mg) (S_Grid_init : FI P w K mg base cl 1 0 "Grid" 3 m_Grid_init) (DI_Grid_init : FID P w K mg base cl 1 0 "Grid" 3 m_Grid_init [.int 0]) (L_Grid : ClS K cl 0 ["start", "width"]) (O_Grid_and : FO P w K mg base cl 3 0 .BitAnd m_Grid_and) (O_Grid_or : FO P w K mg base cl 3 0 .BitOr m_Grid_or) (CM_Grid_eq_Eq : FCm P w K mg base cl 2 0 1 .Eq m_Grid_eq) (RM_Grid_eq_Eq : FRm P w K mg base cl 2 0 .Eq m_Grid_eq) (CM_Grid_le_LtE : FCm P w K mg base cl 3 0 1 .LtE m_Grid_le) (RM_Grid_ge_LtE : FRm P w K mg base cl 1 0 .LtE m_Grid_ge) (CM_Grid_gt_Gt : FCm P w K mg base cl 2 0 1 .Gt m_Grid_gt) (RM_Grid_lt_Gt : FRm P w K mg base cl 3 0 .Gt m_Grid_lt) (CM_Grid_lt_Lt : FCm P w K mg base cl 3 0 1 .Lt m_Grid_lt) (RM_Grid_gt_Lt : FRm P w K mg base cl 2 0 .Lt m_Grid_gt) (S_law_joined : FS P w K mg base cl 4 "_law_joined" 2 m_law_joined) (S_law_same : FS P w K mg base cl 6 "_law_same" 2 (m_law_same 5)) (cdv : Value) (A : Around) (outer : List Env) (s : Shared) (H : Hp) (E : XK) (hr : Room 6 (A.deeper (envOfC "_law_hand_right" (defScope s_law_hand_right) s.heap.objs.size f cdv))) :
    SS (cxOf CX0 P w K mg base ["_law_four", "_law_six", "_law_got", "_law_due"] "_law_hand_right" (defScope s_law_hand_right) f cdv A outer s H E).nox cl ((defBody s_law_hand_right).getD 8 (.Pass ⟨0, 0, 0, 0⟩)) m_law_hand_right_8 := by
  exact (ss_ret (se_call S_law_same.x hr (by decide) (sa_cons (se_var (i := 2)) (sa_cons (se_add (se_var (i := 3)) (se_lst (sa_cons se_int (sa_cons se_bl sa_nil)))) sa_nil))))
theorem ok_law_hand_right {f : Addr} {fd : FuncData} (F : Fun K "_law_hand_right" "_law_hand_right" s_law_hand_right f fd) (B : Bt mg) (S_Grid_init : FI P w K mg base cl 1 0 "Grid" 3 m_Grid_init) (DI_Grid_init : FID P w K mg base cl 1 0 "Grid" 3 m_Grid_init [.int 0]) (L_Grid : ClS K cl 0 ["start", "width"]) (O_Grid_and : FO P w K mg base cl 3 0 .BitAnd m_Grid_and) (O_Grid_or : FO P w K mg base cl 3 0 .BitOr m_Grid_or) (CM_Grid_eq_Eq : FCm P w K mg base cl 2 0 1 .Eq m_Grid_eq) (RM_Grid_eq_Eq : FRm P w K mg base cl 2 0 .Eq m_Grid_eq) (CM_Grid_le_LtE : FCm P w K mg base cl 3 0 1 .LtE m_Grid_le) (RM_Grid_ge_LtE : FRm P w K mg base cl 1 0 .LtE m_Grid_ge) (CM_Grid_gt_Gt : FCm P w K mg base cl 2 0 1 .Gt m_Grid_gt) (RM_Grid_lt_Gt : FRm P w K mg base cl 3 0 .Gt m_Grid_lt) (CM_Grid_lt_Lt : FCm P w K mg base cl 3 0 1 .Lt m_Grid_lt) (RM_Grid_gt_Lt : FRm P w K mg base cl 2 0 .Lt m_Grid_gt) (S_law_joined : FS P w K mg base cl 4 "_law_joined" 2 m_law_joined) (S_law_same : FS P w K mg base cl 6 "_law_same" 2 (m_law_same 5)) : FnOk P w K mg base CX0 7 f fd [] (spM K cl 0 m_law_hand_right) := by
  refine def_ok (N := ["_law_four", "_law_six", "_law_got", "_law_due"]) (n := 0) F sc_law_hand_right rfl (fun cdv A outer s H E hr => ?_)
  exact (sss_cons (t_law_hand_right_0 B S_Grid_init DI_Grid_init L_Grid O_Grid_and O_Grid_or CM_Grid_eq_Eq RM_Grid_eq_Eq CM_Grid_le_LtE RM_Grid_ge_LtE CM_Grid_gt_Gt RM_Grid_lt_Gt CM_Grid_lt_Lt RM_Grid_gt_Lt S_law_joined S_law_same cdv A outer s H E hr)
    (sss_cons (t_law_hand_right_1 B S_Grid_init DI_Grid_init L_Grid O_Grid_and O_Grid_or CM_Grid_eq_Eq RM_Grid_eq_Eq CM_Grid_le_LtE RM_Grid_ge_LtE CM_Grid_gt_Gt RM_Grid_lt_Gt CM_Grid_lt_Lt RM_Grid_gt_Lt S_law_joined S_law_same cdv A outer s H E hr)
    (sss_cons (t_law_hand_right_2 B S_Grid_init DI_Grid_init L_Grid O_Grid_and O_Grid_or CM_Grid_eq_Eq RM_Grid_eq_Eq CM_Grid_le_LtE RM_Grid_ge_LtE CM_Grid_gt_Gt RM_Grid_lt_Gt CM_Grid_lt_Lt RM_Grid_gt_Lt S_law_joined S_law_same cdv A outer s H E hr)
    (sss_cons (t_law_hand_right_3 B S_Grid_init DI_Grid_init L_Grid O_Grid_and O_Grid_or CM_Grid_eq_Eq RM_Grid_eq_Eq CM_Grid_le_LtE RM_Grid_ge_LtE CM_Grid_gt_Gt RM_Grid_lt_Gt CM_Grid_lt_Lt RM_Grid_gt_Lt S_law_joined S_law_same cdv A outer s H E hr)
    (sss_cons (t_law_hand_right_4 B S_Grid_init DI_Grid_init L_Grid O_Grid_and O_Grid_or CM_Grid_eq_Eq RM_Grid_eq_Eq CM_Grid_le_LtE RM_Grid_ge_LtE CM_Grid_gt_Gt RM_Grid_lt_Gt CM_Grid_lt_Lt RM_Grid_gt_Lt S_law_joined S_law_same cdv A outer s H E hr)
    (sss_cons (t_law_hand_right_5 B S_Grid_init DI_Grid_init L_Grid O_Grid_and O_Grid_or CM_Grid_eq_Eq RM_Grid_eq_Eq CM_Grid_le_LtE RM_Grid_ge_LtE CM_Grid_gt_Gt RM_Grid_lt_Gt CM_Grid_lt_Lt RM_Grid_gt_Lt S_law_joined S_law_same cdv A outer s H E hr)
    (sss_cons (t_law_hand_right_6 B S_Grid_init DI_Grid_init L_Grid O_Grid_and O_Grid_or CM_Grid_eq_Eq RM_Grid_eq_Eq CM_Grid_le_LtE RM_Grid_ge_LtE CM_Grid_gt_Gt RM_Grid_lt_Gt CM_Grid_lt_Lt RM_Grid_gt_Lt S_law_joined S_law_same cdv A outer s H E hr)
    (sss_cons (t_law_hand_right_7 B S_Grid_init DI_Grid_init L_Grid O_Grid_and O_Grid_or CM_Grid_eq_Eq RM_Grid_eq_Eq CM_Grid_le_LtE RM_Grid_ge_LtE CM_Grid_gt_Gt RM_Grid_lt_Gt CM_Grid_lt_Lt RM_Grid_gt_Lt S_law_joined S_law_same cdv A outer s H E hr)
    (sss_one (t_law_hand_right_8 B S_Grid_init DI_Grid_init L_Grid O_Grid_and O_Grid_or CM_Grid_eq_Eq RM_Grid_eq_Eq CM_Grid_le_LtE RM_Grid_ge_LtE CM_Grid_gt_Gt RM_Grid_lt_Gt CM_Grid_lt_Lt RM_Grid_gt_Lt S_law_joined S_law_same cdv A outer s H E hr))))))))))
theorem fs_law_hand_right {f : Addr} {fd : FuncData} (F : Fun K "_law_hand_right" "_law_hand_right" s_law_hand_right f fd) (hm : mg "_law_hand_right" = some (.ref f)) (B : Bt mg) (S_Grid_init : FI P w K mg base cl 1 0 "Grid" 3 m_Grid_init) (DI_Grid_init : FID P w K mg base cl 1 0 "Grid" 3 m_Grid_init [.int 0]) (L_Grid : ClS K cl 0 ["start", "width"]) (O_Grid_and : FO P w K mg base cl 3 0 .BitAnd m_Grid_and) (O_Grid_or : FO P w K mg base cl 3 0 .BitOr m_Grid_or) (CM_Grid_eq_Eq : FCm P w K mg base cl 2 0 1 .Eq m_Grid_eq) (RM_Grid_eq_Eq : FRm P w K mg base cl 2 0 .Eq m_Grid_eq) (CM_Grid_le_LtE : FCm P w K mg base cl 3 0 1 .LtE m_Grid_le) (RM_Grid_ge_LtE : FRm P w K mg base cl 1 0 .LtE m_Grid_ge) (CM_Grid_gt_Gt : FCm P w K mg base cl 2 0 1 .Gt m_Grid_gt) (RM_Grid_lt_Gt : FRm P w K mg base cl 3 0 .Gt m_Grid_lt) (CM_Grid_lt_Lt : FCm P w K mg base cl 3 0 1 .Lt m_Grid_lt) (RM_Grid_gt_Lt : FRm P w K mg base cl 2 0 .Lt m_Grid_gt) (S_law_joined : FS P w K mg base cl 4 "_law_joined" 2 m_law_joined) (S_law_same : FS P w K mg base cl 6 "_law_same" 2 (m_law_same 5)) : FS P w K mg base cl 7 "_law_hand_right" 0 m_law_hand_right :=
  ⟨⟨f, fd, [], ok_law_hand_right F B S_Grid_init DI_Grid_init L_Grid O_Grid_and O_Grid_or CM_Grid_eq_Eq RM_Grid_eq_Eq CM_Grid_le_LtE RM_Grid_ge_LtE CM_Grid_gt_Gt RM_Grid_lt_Gt CM_Grid_lt_Lt RM_Grid_gt_Lt S_law_joined S_law_same, hm, F.kp, F.binds (ps := []) fun _ _ _ _ _ _ us hl => match us, hl with | [], _ => rfl, rfl⟩, fun rs μ z h => mDef_ar rs μ z h⟩
end
end NS
set_option Elab.async false
set_option linter.all false
set_option maxRecDepth 100000
set_option maxHeartbeats 4000000
namespace NS
open PySem PySem.Spec PyProof.Rows L2 DL
section
variable {P : Program} {w : World} {K : PySem.W.Frag} {mg : Str → Option Value} {base : Heap} {cl : Nat → Addr}
theorem t_law_take_0 {f : Addr} (B : Bt mg) (cdv : Value) (A : Around) (outer : List Env) (s : Shared) (H : Hp) (E : XK) (hr : Room 0 (A.deeper (envOfC "_law_take" (defScope s_law_take) s.heap.objs.size f cdv))) :
    SS (cxOf CX0 P w K mg base ["_law_box_here", "_law_below", "_law_drawn", "_law_once", "_law_far", "_law_twice"] "_law_take" (defScope s_law_take) f cdv A outer s H E).nox cl ((sub1 ((defBody s_law_take).getD 0 (.Pass ⟨0, 0, 0, 0⟩))).getD 0 (.Pass ⟨0, 0, 0, 0⟩)) m_law_take_0 := by
  exact (ss_set (i := 2) sc_law_take.nd (se_mod (se_int1 B.int (sa_cons (se_ix (se_var (i := 0)) se_int) sa_nil)) (se_var (i := 1))))
theorem t_law_take_1 {f : Addr} (B : Bt mg) (cdv : Value) (A : Around) (outer : List Env) (s : Shared) (H : Hp) (E : XK) (hr : Room 0 (A.deeper (envOfC "_law_take" (defScope s_law_take) s.heap.objs.size f cdv))) :
    SS (cxOf CX0 P w K mg base ["_law_box_here", "_law_below", "_law_drawn", "_law_once", "_law_far", "_law_twice"] "_law_take" (defScope s_law_take) f cdv A outer s H E).nox cl ((sub1 ((defBody s_law_take).getD 0 (.Pass ⟨0, 0, 0, 0⟩))).getD 1 (.Pass ⟨0, 0, 0, 0⟩)) m_law_take_1 := by
  exact (ss_put (se_var (i := 0)) se_int (se_div (se_ix (se_var (i := 0)) se_int) (se_var (i := 1))))
theorem t_law_take_2 {f : Addr} (B : Bt mg) (cdv : Value) (A : Around) (outer : List Env) (s : Shared) (H : Hp) (E : XK) (hr : Room 0 (A.deeper (envOfC "_law_take" (defScope s_law_take) s.heap.objs.size f cdv))) :
    SS (cxOf CX0 P w K mg base ["_law_box_here", "_law_below", "_law_drawn", "_law_once", "_law_far", "_law_twice"] "_law_take" (defScope s_law_take) f cdv A outer s H E).nox cl ((sub1 ((defBody s_law_take).getD 0 (.Pass ⟨0, 0, 0, 0⟩))).getD 2 (.Pass ⟨0, 0, 0, 0⟩)) m_law_take_2 := by
  exact (ss_ret (se_var (i := 2)))
theorem t_law_take_3 {f : Addr} (B : Bt mg) (cdv : Value) (A : Around) (outer : List Env) (s : Shared) (H : Hp) (E : XK) (hr : Room 0 (A.deeper (envOfC "_law_take" (defScope s_law_take) s.heap.objs.size f cdv))) :
    SS (cxOf CX0 P w K mg base ["_law_box_here", "_law_below", "_law_drawn", "_law_once", "_law_far", "_law_twice"] "_law_take" (defScope s_law_take) f cdv A outer s H E).nox cl ((defBody s_law_take).getD 0 (.Pass ⟨0, 0, 0, 0⟩)) m_law_take_3 := by
  exact (ss_if (st_gt (se_ix (se_var (i := 0)) se_int) se_int) (sss_cons (t_law_take_0 B cdv A outer s H E hr)
    (sss_cons (t_law_take_1 B cdv A outer s H E hr)
    (sss_one (t_law_take_2 B cdv A outer s H E hr)))) sss_nil)
theorem t_law_take_4 {f : Addr} (B : Bt mg) (cdv : Value) (A : Around) (outer : List Env) (s : Shared) (H : Hp) (E : XK) (hr : Room 0 (A.deeper (envOfC "_law_take" (defScope s_law_take) s.heap.objs.size f cdv))) :
    SS (cxOf CX0 P w K mg base ["_law_box_here", "_law_below", "_law_drawn", "_law_once", "_law_far", "_law_twice"] "_law_take" (defScope s_law_take) f cdv A outer s H E).nox cl ((defBody s_law_take).getD 1 (.Pass ⟨0, 0, 0, 0⟩)) m_law_take_4 := by
  exact (ss_put (se_var (i := 0)) se_int (se_add (se_ix (se_var (i := 0)) se_int) se_int))
theorem t_law_take_5 {f : Addr} (B : Bt mg) (cdv : Value) (A : Around) (outer : List Env) (s : Shared) (H : Hp) (E : XK) (hr : Room 0 (A.deeper (envOfC "_law_take" (defScope s_law_take) s.heap.objs.size f cdv))) :
    SS (cxOf CX0 P w K mg base ["_law_box_here", "_law_below", "_law_drawn", "_law_once", "_law_far", "_law_twice"] "_law_take" (defScope s_law_take) f cdv A outer s H E).nox cl ((defBody s_law_take).getD 2 (.Pass ⟨0, 0, 0, 0⟩)) m_law_take_5 := by
  exact (ss_set (i := 3) sc_law_take.nd (se_mod (se_int1 B.int (sa_cons (se_mul (se_add (se_ix (se_var (i := 0)) se_int) (se_mul se_int (se_ix (se_var (i := 0)) se_int))) (se_add se_int (se_ix (se_var (i := 0)) se_int))) sa_nil)) se_int))
theorem t_law_take_6 {f : Addr} (B : Bt mg) (cdv : Value) (A : Around) (outer : List Env) (s : Shared) (H : Hp) (E : XK) (hr : Room 0 (A.deeper (envOfC "_law_take" (defScope s_law_take) s.heap.objs.size f cdv))) :
    SS (cxOf CX0 P w K mg base ["_law_box_here", "_law_below", "_law_drawn", "_law_once", "_law_far", "_law_twice"] "_law_take" (defScope s_law_take) f cdv A outer s H E).nox cl ((defBody s_law_take).getD 3 (.Pass ⟨0, 0, 0, 0⟩)) m_law_take_6 := by
  exact (ss_set (i := 4) sc_law_take.nd (se_add (se_mod (se_int1 B.int (sa_cons (se_var (i := 3)) sa_nil)) se_int) se_int))
theorem t_law_take_7 {f : Addr} (B : Bt mg) (cdv : Value) (A : Around) (outer : List Env) (s : Shared) (H : Hp) (E : XK) (hr : Room 0 (A.deeper (envOfC "_law_take" (defScope s_law_take) s.heap.objs.size f cdv))) :
    SS (cxOf CX0 P w K mg base ["_law_box_here", "_law_below", "_law_drawn", "_law_once", "_law_far", "_law_twice"] "_law_take" (defScope s_law_take) f cdv A outer s H E).nox cl ((defBody s_law_take).getD 4 (.Pass ⟨0, 0, 0, 0⟩)) m_law_take_7 := by
  exact (ss_set (i := 5) sc_law_take.nd (se_mod (se_int1 B.int (sa_cons (se_mul (se_add (se_add (se_var (i := 3)) (se_ix (se_var (i := 0)) se_int)) (se_div (se_ix (se_var (i := 0)) se_int) se_int)) (se_var (i := 4))) sa_nil)) se_int))
theorem t_law_take_8 {f : Addr} (B : Bt mg) (cdv : Value) (A : Around) (outer : List Env) (s : Shared) (H : Hp) (E : XK) (hr : Room 0 (A.deeper (envOfC "_law_take" (defScope s_law_take) s.heap.objs.size f cdv))) :
    SS (cxOf CX0 P w K mg base ["_law_box_here", "_law_below", "_law_drawn", "_law_once", "_law_far", "_law_twice"] "_law_take" (defScope s_law_take) f cdv A outer s H E).nox cl ((defBody s_law_take).getD 5 (.Pass ⟨0, 0, 0, 0⟩)) m_law_take_8 := by
  exact (ss_ret (se_mod (se_int1 B.int (sa_cons (se_div (se_mod (se_int1 B.int (sa_cons (se_add (se_mul (se_var (i := 5)) se_int) (se_var (i := 3))) sa_nil)) se_int) se_int) sa_nil)) (se_var (i := 1))))
theorem ok_law_take {f : Addr} {fd : FuncData} (F : Fun K "_law_take" "_law_take" s_law_take f fd) (B : Bt mg) : FnOk P w K mg base CX0 1 f fd ["_law_box_here", "_law_below"] (spM K cl 2 m_law_take) := by
  refine def_ok (N := ["_law_box_here", "_law_below", "_law_drawn", "_law_once", "_law_far", "_law_twice"]) (n := 2) F sc_law_take rfl (fun cdv A outer s H E hr => ?_)
  exact (sss_cons (t_law_take_3 B cdv A outer s H E hr)
    (sss_cons (t_law_take_4 B cdv A outer s H E hr)
    (sss_cons (t_law_take_5 B cdv A outer s H E hr)
    (sss_cons (t_law_take_6 B cdv A outer s H E hr)
    (sss_cons (t_law_take_7 B cdv A outer s H E hr)
    (sss_one (t_law_take_8 B cdv A outer s H E hr)))))))
theorem fs_law_take {f : Addr} {fd : FuncData} (F : Fun K "_law_take" "_law_take" s_law_take f fd) (hm : mg "_law_take" = some (.ref f)) (B : Bt mg) : FS P w K mg base cl 1 "_law_take" 2 m_law_take :=
  ⟨⟨f, fd, ["_law_box_here", "_law_below"], ok_law_take F B, hm, F.kp, F.binds (ps := ["_law_box_here", "_law_below"]) fun _ _ _ _ _ _ us hl => match us, hl with | [_, _], _ => rfl, rfl⟩, fun rs μ z h => mDef_ar rs μ z h⟩
end
end NS
set_option Elab.async false
set_option linter.all false
set_option maxRecDepth 100000
set_option maxHeartbeats 4000000
namespace NS
open PySem PySem.Spec PyProof.Rows L2 DL
section
variable {P : Program} {w : World} {K : PySem.W.Frag} {mg : Str → Option Value} {base : Heap} {cl : Nat → Addr}
theorem t_law_of_0 {f : Addr} (B : Bt mg) (S_law_take : FS P w K mg base cl 1 "_law_take" 2 m_law_take) (cdv : Value) (A : Around) (outer : List Env) (s : Shared) (H : Hp) (E : XK) (hr : Room 1 (A.deeper (envOfC "_law_of" (defScope s_law_of) s.heap.objs.size f cdv))) :
    SS (cxOf CX0 P w K mg base ["_law_box_here", "_law_some_so"] "_law_of" (defScope s_law_of) f cdv A outer s H E).nox cl ((defBody s_law_of).getD 0 (.Pass ⟨0, 0, 0, 0⟩)) m_law_of_0 := by
  exact (ss_ret (se_ix (se_var (i := 1)) (se_call S_law_take.x hr (by decide) (sa_cons (se_var (i := 0)) (sa_cons (se_len B.len (sa_cons (se_var (i := 1)) sa_nil)) sa_nil)))))
theorem ok_law_of {f : Addr} {fd : FuncData} (F : Fun K "_law_of" "_law_of" s_law_of f fd) (B : Bt mg) (S_law_take : FS P w K mg base cl 1 "_law_take" 2 m_law_take) : FnOk P w K mg base CX0 2 f fd ["_law_box_here", "_law_some_so"] (spM K cl 2 m_law_of) := by
  refine def_ok (N := ["_law_box_here", "_law_some_so"]) (n := 2) F sc_law_of rfl (fun cdv A outer s H E hr => ?_)
  exact (sss_one (t_law_of_0 B S_law_take cdv A outer s H E hr))
theorem fs_law_of {f : Addr} {fd : FuncData} (F : Fun K "_law_of" "_law_of" s_law_of f fd) (hm : mg "_law_of" = some (.ref f)) (B : Bt mg) (S_law_take : FS P w K mg base cl 1 "_law_take" 2 m_law_take) : FS P w K mg base cl 2 "_law_of" 2 m_law_of :=
  ⟨⟨f, fd, ["_law_box_here", "_law_some_so"], ok_law_of F B S_law_take, hm, F.kp, F.binds (ps := ["_law_box_here", "_law_some_so"]) fun _ _ _ _ _ _ us hl => match us, hl with | [_, _], _ => rfl, rfl⟩, fun rs μ z h => mDef_ar rs μ z h⟩
end
end NS
set_option Elab.async false
set_option linter.all false
set_option maxRecDepth 100000
set_option maxHeartbeats 4000000
namespace NS
open PySem PySem.Spec PyProof.Rows L2 DL
section
variable {P : Program} {w : World} {K : PySem.W.Frag} {mg : Str → Option Value} {base : Heap} {cl : Nat → Addr}
theorem t_law_is_finer_0 {f : Addr} (B : Bt mg) (cdv : Value) (A : Around) (outer : List Env) (s : Shared) (H : Hp) (E : XK) (hr : Room 0 (A.deeper (envOfC "_law_is_finer" (defScope s_law_is_finer) s.heap.objs.size f cdv))) :
    SS (cxOf CX0 P w K mg base ["_law_mine", "_law_its", "_law_x", "_law_is_in"] "_law_is_finer" (defScope s_law_is_finer) f cdv A outer s H E).nox cl ((sub1 ((defBody s_law_is_finer).getD 0 (.Pass ⟨0, 0, 0, 0⟩))).getD 0 (.Pass ⟨0, 0, 0, 0⟩)) m_law_is_finer_0 := by
  exact (ss_set (i := 3) sc_law_is_finer.nd (se_eq hr.units (se_div (se_sub (se_var (i := 2)) (se_ix (se_var (i := 0)) se_int)) (se_ix (se_var (i := 0)) se_int)) (se_div (se_sub (se_add (se_var (i := 2)) se_int) (se_ix (se_var (i := 0)) se_int)) (se_ix (se_var (i := 0)) se_int))))
theorem t_law_is_finer_1 {f : Addr} (B : Bt mg) (cdv : Value) (A : Around) (outer : List Env) (s : Shared) (H : Hp) (E : XK) (hr : Room 0 (A.deeper (envOfC "_law_is_finer" (defScope s_law_is_finer) s.heap.objs.size f cdv))) :
    SS (cxOf CX0 P w K mg base ["_law_mine", "_law_its", "_law_x", "_law_is_in"] "_law_is_finer" (defScope s_law_is_finer) f cdv A outer s H E).nox cl ((sub1 ((sub1 ((defBody s_law_is_finer).getD 0 (.Pass ⟨0, 0, 0, 0⟩))).getD 1 (.Pass ⟨0, 0, 0, 0⟩))).getD 0 (.Pass ⟨0, 0, 0, 0⟩)) m_law_is_finer_1 := by
  exact (ss_ret se_bl)
theorem t_law_is_finer_2 {f : Addr} (B : Bt mg) (cdv : Value) (A : Around) (outer : List Env) (s : Shared) (H : Hp) (E : XK) (hr : Room 0 (A.deeper (envOfC "_law_is_finer" (defScope s_law_is_finer) s.heap.objs.size f cdv))) :
    SS (cxOf CX0 P w K mg base ["_law_mine", "_law_its", "_law_x", "_law_is_in"] "_law_is_finer" (defScope s_law_is_finer) f cdv A outer s H E).nox cl ((sub1 ((defBody s_law_is_finer).getD 0 (.Pass ⟨0, 0, 0, 0⟩))).getD 1 (.Pass ⟨0, 0, 0, 0⟩)) m_law_is_finer_2 := by
  exact (ss_if (st_w (sw_and (st_val (se_var (i := 3))) (sw_and1 (st_ne hr.units (se_div (se_sub (se_var (i := 2)) (se_ix (se_var (i := 1)) se_int)) (se_ix (se_var (i := 1)) se_int)) (se_div (se_sub (se_add (se_var (i := 2)) se_int) (se_ix (se_var (i := 1)) se_int)) (se_ix (se_var (i := 1)) se_int)))))) (sss_one (t_law_is_finer_1 B cdv A outer s H E hr)) sss_nil)
theorem t_law_is_finer_4 {f : Addr} (B : Bt mg) (cdv : Value) (A : Around) (outer : List Env) (s : Shared) (H : Hp) (E : XK) (hr : Room 0 (A.deeper (envOfC "_law_is_finer" (defScope s_law_is_finer) s.heap.objs.size f cdv))) :
    SS (cxOf CX0 P w K mg base ["_law_mine", "_law_its", "_law_x", "_law_is_in"] "_law_is_finer" (defScope s_law_is_finer) f cdv A outer s H E).nox cl ((defBody s_law_is_finer).getD 0 (.Pass ⟨0, 0, 0, 0⟩)) m_law_is_finer_4 := by
  exact (ss_for (si_range1 B.range (sa_cons (se_mul (se_ix (se_var (i := 0)) se_int) (se_ix (se_var (i := 1)) se_int)) sa_nil)) (sg_name (i := 2) (vs := [2]) sc_law_is_finer.nd) (sss_cons (t_law_is_finer_0 B cdv A outer s H E hr)
    (sss_one (t_law_is_finer_2 B cdv A outer s H E hr))))
theorem t_law_is_finer_5 {f : Addr} (B : Bt mg) (cdv : Value) (A : Around) (outer : List Env) (s : Shared) (H : Hp) (E : XK) (hr : Room 0 (A.deeper (envOfC "_law_is_finer" (defScope s_law_is_finer) s.heap.objs.size f cdv))) :
    SS (cxOf CX0 P w K mg base ["_law_mine", "_law_its", "_law_x", "_law_is_in"] "_law_is_finer" (defScope s_law_is_finer) f cdv A outer s H E).nox cl ((defBody s_law_is_finer).getD 1 (.Pass ⟨0, 0, 0, 0⟩)) m_law_is_finer_5 := by
  exact (ss_ret se_bl)
theorem ok_law_is_finer {f : Addr} {fd : FuncData} (F : Fun K "_law_is_finer" "_law_is_finer" s_law_is_finer f fd) (B : Bt mg) : FnOk P w K mg base CX0 1 f fd ["_law_mine", "_law_its"] (spM K cl 2 m_law_is_finer) := by
  refine def_ok (N := ["_law_mine", "_law_its", "_law_x", "_law_is_in"]) (n := 2) F sc_law_is_finer rfl (fun cdv A outer s H E hr => ?_)
  exact (sss_cons (t_law_is_finer_4 B cdv A outer s H E hr)
    (sss_one (t_law_is_finer_5 B cdv A outer s H E hr)))
theorem fs_law_is_finer {f : Addr} {fd : FuncData} (F : Fun K "_law_is_finer" "_law_is_finer" s_law_is_finer f fd) (hm : mg "_law_is_finer" = some (.ref f)) (B : Bt mg) : FS P w K mg base cl 1 "_law_is_finer" 2 m_law_is_finer :=
  ⟨⟨f, fd, ["_law_mine", "_law_its"], ok_law_is_finer F B, hm, F.kp, F.binds (ps := ["_law_mine", "_law_its"]) fun _ _ _ _ _ _ us hl => match us, hl with | [_, _], _ => rfl, rfl⟩, fun rs μ z h => mDef_ar rs μ z h⟩
end
end NS
set_option Elab.async false
set_option linter.all false
set_option maxRecDepth 100000
set_option maxHeartbeats 4000000
namespace NS
open PySem PySem.Spec PyProof.Rows L2 DL
section
variable {P : Program} {w : World} {K : PySem.W.Frag} {mg : Str → Option Value} {base : Heap} {cl : Nat → Addr}
theorem t_law_begins_2 {f : Addr} (B : Bt mg) (cdv : Value) (A : Around) (outer : List Env) (s : Shared) (H : Hp) (E : XK) (hr : Room 0 (A.deeper (envOfC "_law_begins" (defScope s_law_begins) s.heap.objs.size f cdv))) :
    SS (cxOf CX0 P w K mg base ["_law_net", "_law_last", "_law_x"] "_law_begins" (defScope s_law_begins) f cdv A outer s H E).nox cl ((defBody s_law_begins).getD 0 (.Pass ⟨0, 0, 0, 0⟩)) m_law_begins_2 := by
  exact (ss_ret (se_lc (own := [("_law_x", 2)]) sc_law_begins.nd (si_range1 B.range (sa_cons (se_var (i := 1)) sa_nil)) (sem_name (by decide)) (fun _ _ _ _ _ => (sg_name (cl := cl) (vs := [2]) (i := 2) sc_law_begins.nd).1) (fun _ _ _ _ _ => (stt_one (st_ne hr.units (se_div (se_sub (se_var (i := 2)) (se_ix (se_var (i := 0)) se_int)) (se_ix (se_var (i := 0)) se_int)) (se_div (se_sub (se_sub (se_var (i := 2)) se_int) (se_ix (se_var (i := 0)) se_int)) (se_ix (se_var (i := 0)) se_int))))) (fun _ _ _ _ _ => (se_var (i := 2))) (blkOk_by (by kernel_rfl))))
theorem ok_law_begins {f : Addr} {fd : FuncData} (F : Fun K "_law_begins" "_law_begins" s_law_begins f fd) (B : Bt mg) : FnOk P w K mg base CX0 1 f fd ["_law_net", "_law_last"] (spM K cl 2 m_law_begins) := by
  refine def_ok (N := ["_law_net", "_law_last", "_law_x"]) (n := 2) F sc_law_begins rfl (fun cdv A outer s H E hr => ?_)
  exact (sss_one (t_law_begins_2 B cdv A outer s H E hr))
theorem fs_law_begins {f : Addr} {fd : FuncData} (F : Fun K "_law_begins" "_law_begins" s_law_begins f fd) (hm : mg "_law_begins" = some (.ref f)) (B : Bt mg) : FS P w K mg base cl 1 "_law_begins" 2 m_law_begins :=
  ⟨⟨f, fd, ["_law_net", "_law_last"], ok_law_begins F B, hm, F.kp, F.binds (ps := ["_law_net", "_law_last"]) fun _ _ _ _ _ _ us hl => match us, hl with | [_, _], _ => rfl, rfl⟩, fun rs μ z h => mDef_ar rs μ z h⟩
end
end NS
set_option Elab.async false
set_option linter.all false
set_option maxRecDepth 100000
set_option maxHeartbeats 4000000
namespace NS
open PySem PySem.Spec PyProof.Rows L2 DL
section
variable {P : Program} {w : World} {K : PySem.W.Frag} {mg : Str → Option Value} {base : Heap} {cl : Nat → Addr}
theorem t_law_narrow_0 {f : Addr} (B : Bt mg) (S_law_begins : FS P w K mg base cl 1 "_law_begins" 2 m_law_begins) (cdv : Value) (A : Around) (outer : List Env) (s : Shared) (H : Hp) (E : XK) (hr : Room 1 (A.deeper (envOfC "_law_narrow" (defScope s_law_narrow) s.heap.objs.size f cdv))) :
    SS (cxOf CX0 P w K mg base ["_law_mine", "_law_its", "_law_begins_here", "_law_wide_here", "_law_rest", "_law_x"] "_law_narrow" (defScope s_law_narrow) f cdv A outer s H E).nox cl ((defBody s_law_narrow).getD 0 (.Pass ⟨0, 0, 0, 0⟩)) m_law_narrow_0 := by
  exact (ss_set (i := 2) sc_law_narrow.nd (se_add (se_call S_law_begins.x hr (by decide) (sa_cons (se_var (i := 0)) (sa_cons (se_mul (se_ix (se_var (i := 0)) se_int) (se_ix (se_var (i := 1)) se_int)) sa_nil))) (se_call S_law_begins.x hr (by decide) (sa_cons (se_var (i := 1)) (sa_cons (se_mul (se_ix (se_var (i := 0)) se_int) (se_ix (se_var (i := 1)) se_int)) sa_nil)))))
theorem t_law_narrow_2 {f : Addr} (B : Bt mg) (S_law_begins : FS P w K mg base cl 1 "_law_begins" 2 m_law_begins) (cdv : Value) (A : Around) (outer : List Env) (s : Shared) (H : Hp) (E : XK) (hr : Room 1 (A.deeper (envOfC "_law_narrow" (defScope s_law_narrow) s.heap.objs.size f cdv))) :
    SS (cxOf CX0 P w K mg base ["_law_mine", "_law_its", "_law_begins_here", "_law_wide_here", "_law_rest", "_law_x"] "_law_narrow" (defScope s_law_narrow) f cdv A outer s H E).nox cl ((sub1 ((defBody s_law_narrow).getD 1 (.Pass ⟨0, 0, 0, 0⟩))).getD 0 (.Pass ⟨0, 0, 0, 0⟩)) m_law_narrow_2 := by
  exact (ss_setLc (i := 4) (own := [("_law_x", 5)]) sc_law_narrow.nd (si_seq (se_var (i := 2))) (sem_name (by decide)) (fun _ _ _ _ _ => (sg_name (cl := cl) (vs := [5]) (i := 5) sc_law_narrow.nd).1) (fun _ _ _ _ _ => stt_nil) (fun _ _ _ _ _ => (se_mod (se_int1 B.int (sa_cons (se_var (i := 5)) sa_nil)) (se_var (i := 3)))) (blkOk_by (by kernel_rfl)) (sw_true rfl rfl rfl (by decide +kernel)))
theorem t_law_narrow_3 {f : Addr} (B : Bt mg) (S_law_begins : FS P w K mg base cl 1 "_law_begins" 2 m_law_begins) (cdv : Value) (A : Around) (outer : List Env) (s : Shared) (H : Hp) (E : XK) (hr : Room 1 (A.deeper (envOfC "_law_narrow" (defScope s_law_narrow) s.heap.objs.size f cdv))) :
    SS (cxOf CX0 P w K mg base ["_law_mine", "_law_its", "_law_begins_here", "_law_wide_here", "_law_rest", "_law_x"] "_law_narrow" (defScope s_law_narrow) f cdv A outer s H E).nox cl ((sub1 ((sub1 ((defBody s_law_narrow).getD 1 (.Pass ⟨0, 0, 0, 0⟩))).getD 1 (.Pass ⟨0, 0, 0, 0⟩))).getD 0 (.Pass ⟨0, 0, 0, 0⟩)) m_law_narrow_3 := by
  exact (ss_ret (se_tup (sa_cons (se_var (i := 3)) (sa_cons (se_ix (se_var (i := 4)) se_int) sa_nil))))
theorem t_law_narrow_4 {f : Addr} (B : Bt mg) (S_law_begins : FS P w K mg base cl 1 "_law_begins" 2 m_law_begins) (cdv : Value) (A : Around) (outer : List Env) (s : Shared) (H : Hp) (E : XK) (hr : Room 1 (A.deeper (envOfC "_law_narrow" (defScope s_law_narrow) s.heap.objs.size f cdv))) :
    SS (cxOf CX0 P w K mg base ["_law_mine", "_law_its", "_law_begins_here", "_law_wide_here", "_law_rest", "_law_x"] "_law_narrow" (defScope s_law_narrow) f cdv A outer s H E).nox cl ((sub1 ((defBody s_law_narrow).getD 1 (.Pass ⟨0, 0, 0, 0⟩))).getD 1 (.Pass ⟨0, 0, 0, 0⟩)) m_law_narrow_4 := by
  exact (ss_if (st_eq hr.units (se_var (i := 4)) (se_mulL (se_lst (sa_cons (se_ix (se_var (i := 4)) se_int) sa_nil)) (se_len B.len (sa_cons (se_var (i := 4)) sa_nil)))) (sss_one (t_law_narrow_3 B S_law_begins cdv A outer s H E hr)) sss_nil)
theorem t_law_narrow_6 {f : Addr} (B : Bt mg) (S_law_begins : FS P w K mg base cl 1 "_law_begins" 2 m_law_begins) (cdv : Value) (A : Around) (outer : List Env) (s : Shared) (H : Hp) (E : XK) (hr : Room 1 (A.deeper (envOfC "_law_narrow" (defScope s_law_narrow) s.heap.objs.size f cdv))) :
    SS (cxOf CX0 P w K mg base ["_law_mine", "_law_its", "_law_begins_here", "_law_wide_here", "_law_rest", "_law_x"] "_law_narrow" (defScope s_law_narrow) f cdv A outer s H E).nox cl ((defBody s_law_narrow).getD 1 (.Pass ⟨0, 0, 0, 0⟩)) m_law_narrow_6 := by
  exact (ss_for (si_range3 B.range (sa_cons (se_min B.min (sa_cons (se_int1 B.int (sa_cons (se_ix (se_var (i := 0)) se_int) sa_nil)) (sa_cons (se_int1 B.int (sa_cons (se_ix (se_var (i := 1)) se_int) sa_nil)) sa_nil))) (sa_cons se_int (sa_cons (se_neg se_int) sa_nil)))) (sg_name (i := 3) (vs := [3]) sc_law_narrow.nd) (sss_cons (t_law_narrow_2 B S_law_begins cdv A outer s H E hr)
    (sss_one (t_law_narrow_4 B S_law_begins cdv A outer s H E hr))))
theorem t_law_narrow_7 {f : Addr} (B : Bt mg) (S_law_begins : FS P w K mg base cl 1 "_law_begins" 2 m_law_begins) (cdv : Value) (A : Around) (outer : List Env) (s : Shared) (H : Hp) (E : XK) (hr : Room 1 (A.deeper (envOfC "_law_narrow" (defScope s_law_narrow) s.heap.objs.size f cdv))) :
    SS (cxOf CX0 P w K mg base ["_law_mine", "_law_its", "_law_begins_here", "_law_wide_here", "_law_rest", "_law_x"] "_law_narrow" (defScope s_law_narrow) f cdv A outer s H E).nox cl ((defBody s_law_narrow).getD 2 (.Pass ⟨0, 0, 0, 0⟩)) m_law_narrow_7 := by
  exact (ss_ret se_non)
theorem ok_law_narrow {f : Addr} {fd : FuncData} (F : Fun K "_law_narrow" "_law_narrow" s_law_narrow f fd) (B : Bt mg) (S_law_begins : FS P w K mg base cl 1 "_law_begins" 2 m_law_begins) : FnOk P w K mg base CX0 2 f fd ["_law_mine", "_law_its"] (spM K cl 2 m_law_narrow) := by
  refine def_ok (N := ["_law_mine", "_law_its", "_law_begins_here", "_law_wide_here", "_law_rest", "_law_x"]) (n := 2) F sc_law_narrow rfl (fun cdv A outer s H E hr => ?_)
  exact (sss_cons (t_law_narrow_0 B S_law_begins cdv A outer s H E hr)
    (sss_cons (t_law_narrow_6 B S_law_begins cdv A outer s H E hr)
    (sss_one (t_law_narrow_7 B S_law_begins cdv A outer s H E hr))))
theorem fs_law_narrow {f : Addr} {fd : FuncData} (F : Fun K "_law_narrow" "_law_narrow" s_law_narrow f fd) (hm : mg "_law_narrow" = some (.ref f)) (B : Bt mg) (S_law_begins : FS P w K mg base cl 1 "_law_begins" 2 m_law_begins) : FS P w K mg base cl 2 "_law_narrow" 2 m_law_narrow :=
  ⟨⟨f, fd, ["_law_mine", "_law_its"], ok_law_narrow F B S_law_begins, hm, F.kp, F.binds (ps := ["_law_mine", "_law_its"]) fun _ _ _ _ _ _ us hl => match us, hl with | [_, _], _ => rfl, rfl⟩, fun rs μ z h => mDef_ar rs μ z h⟩
end
end NS
set_option Elab.async false
set_option linter.all false
set_option maxRecDepth 100000
set_option maxHeartbeats 4000000
namespace NS
open PySem PySem.Spec PyProof.Rows L2 DL
section
variable {P : Program} {w : World} {K : PySem.W.Frag} {mg : Str → Option Value} {base : Heap} {cl : Nat → Addr}
theorem t_law_wide_0 {f : Addr} (B : Bt mg) (S_law_begins : FS P w K mg base cl 1 "_law_begins" 2 m_law_begins) (cdv : Value) (A : Around) (outer : List Env) (s : Shared) (H : Hp) (E : XK) (hr : Room 1 (A.deeper (envOfC "_law_wide" (defScope s_law_wide) s.heap.objs.size f cdv))) :
    SS (cxOf CX0 P w K mg base ["_law_mine", "_law_its", "_law_last", "_law_both", "_law_x"] "_law_wide" (defScope s_law_wide) f cdv A outer s H E).nox cl ((defBody s_law_wide).getD 0 (.Pass ⟨0, 0, 0, 0⟩)) m_law_wide_0 := by
  exact (ss_set (i := 2) sc_law_wide.nd (se_add (se_mul (se_mul se_int (se_ix (se_var (i := 0)) se_int)) (se_ix (se_var (i := 1)) se_int)) se_int))
theorem t_law_wide_3 {f : Addr} (B : Bt mg) (S_law_begins : FS P w K mg base cl 1 "_law_begins" 2 m_law_begins) (cdv : Value) (A : Around) (outer : List Env) (s : Shared) (H : Hp) (E : XK) (hr : Room 1 (A.deeper (envOfC "_law_wide" (defScope s_law_wide) s.heap.objs.size f cdv))) :
    SS (cxOf CX0 P w K mg base ["_law_mine", "_law_its", "_law_last", "_law_both", "_law_x"] "_law_wide" (defScope s_law_wide) f cdv A outer s H E).nox cl ((defBody s_law_wide).getD 1 (.Pass ⟨0, 0, 0, 0⟩)) m_law_wide_3 := by
  exact (ss_setLc (i := 3) (own := [("_law_x", 4)]) sc_law_wide.nd (si_seq (se_call S_law_begins.x hr (by decide) (sa_cons (se_var (i := 0)) (sa_cons (se_var (i := 2)) sa_nil)))) (sem_name (by decide)) (fun _ _ _ _ _ => (sg_name (cl := cl) (vs := [4]) (i := 4) sc_law_wide.nd).1) (fun _ _ _ _ _ => (stt_one (st_in (se_var (i := 4)) (se_call S_law_begins.x hr (by decide) (sa_cons (se_var (i := 1)) (sa_cons (se_var (i := 2)) sa_nil)))))) (fun _ _ _ _ _ => (se_var (i := 4))) (blkOk_by (by kernel_rfl)) (sw_true rfl rfl rfl (by decide +kernel)))
theorem t_law_wide_4 {f : Addr} (B : Bt mg) (S_law_begins : FS P w K mg base cl 1 "_law_begins" 2 m_law_begins) (cdv : Value) (A : Around) (outer : List Env) (s : Shared) (H : Hp) (E : XK) (hr : Room 1 (A.deeper (envOfC "_law_wide" (defScope s_law_wide) s.heap.objs.size f cdv))) :
    SS (cxOf CX0 P w K mg base ["_law_mine", "_law_its", "_law_last", "_law_both", "_law_x"] "_law_wide" (defScope s_law_wide) f cdv A outer s H E).nox cl ((defBody s_law_wide).getD 2 (.Pass ⟨0, 0, 0, 0⟩)) m_law_wide_4 := by
  exact (ss_ret (se_if (st_ne hr.units (se_var (i := 3)) (se_lst sa_nil)) (se_tup (sa_cons (se_sub (se_ix (se_var (i := 3)) se_int) (se_ix (se_var (i := 3)) se_int)) (sa_cons (se_ix (se_var (i := 3)) se_int) sa_nil))) se_non))
theorem ok_law_wide {f : Addr} {fd : FuncData} (F : Fun K "_law_wide" "_law_wide" s_law_wide f fd) (B : Bt mg) (S_law_begins : FS P w K mg base cl 1 "_law_begins" 2 m_law_begins) : FnOk P w K mg base CX0 2 f fd ["_law_mine", "_law_its"] (spM K cl 2 m_law_wide) := by
  refine def_ok (N := ["_law_mine", "_law_its", "_law_last", "_law_both", "_law_x"]) (n := 2) F sc_law_wide rfl (fun cdv A outer s H E hr => ?_)
  exact (sss_cons (t_law_wide_0 B S_law_begins cdv A outer s H E hr)
    (sss_cons (t_law_wide_3 B S_law_begins cdv A outer s H E hr)
    (sss_one (t_law_wide_4 B S_law_begins cdv A outer s H E hr))))
theorem fs_law_wide {f : Addr} {fd : FuncData} (F : Fun K "_law_wide" "_law_wide" s_law_wide f fd) (hm : mg "_law_wide" = some (.ref f)) (B : Bt mg) (S_law_begins : FS P w K mg base cl 1 "_law_begins" 2 m_law_begins) : FS P w K mg base cl 2 "_law_wide" 2 m_law_wide :=
  ⟨⟨f, fd, ["_law_mine", "_law_its"], ok_law_wide F B S_law_begins, hm, F.kp, F.binds (ps := ["_law_mine", "_law_its"]) fun _ _ _ _ _ _ us hl => match us, hl with | [_, _], _ => rfl, rfl⟩, fun rs μ z h => mDef_ar rs μ z h⟩
end
end NS
set_option Elab.async false
set_option linter.all false
set_option maxRecDepth 100000
set_option maxHeartbeats 4000000
namespace NS
open PySem PySem.Spec PyProof.Rows L2 DL
section
variable {P : Program} {w : World} {K : PySem.W.Frag} {mg : Str → Option Value} {base : Heap} {cl : Nat → Addr}
theorem t_law_pair_right_0 {f : Addr} (B : Bt mg) (S_Grid_init : FI P w K mg base cl 1 0 "Grid" 3 m_Grid_init) (S_law_is_finer : FS P w K mg base cl 1 "_law_is_finer" 2 m_law_is_finer) (CM_Grid_eq_Eq : FCm P w K mg base cl 2 0 1 .Eq m_Grid_eq) (RM_Grid_eq_Eq : FRm P w K mg base cl 2 0 .Eq m_Grid_eq) (CM_Grid_gt_Gt : FCm P w K mg base cl 2 0 1 .Gt m_Grid_gt) (RM_Grid_lt_Gt : FRm P w K mg base cl 3 0 .Gt m_Grid_lt) (CM_Grid_ge_GtE : FCm P w K mg base cl 1 0 1 .GtE m_Grid_ge) (RM_Grid_le_GtE : FRm P w K mg base cl 3 0 .GtE m_Grid_le) (CM_Grid_lt_Lt : FCm P w K mg base cl 3 0 1 .Lt m_Grid_lt) (RM_Grid_gt_Lt : FRm P w K mg base cl 2 0 .Lt m_Grid_gt) (CM_Grid_le_LtE : FCm P w K mg base cl 3 0 1 .LtE m_Grid_le) (RM_Grid_ge_LtE : FRm P w K mg base cl 1 0 .LtE m_Grid_ge) (S_law_same : FS P w K mg base cl 6 "_law_same" 2 (m_law_same 5)) (O_Grid_and : FO P w K mg base cl 3 0 .BitAnd m_Grid_and) (ON_Grid_and : FON P w K mg base cl 3 0 .BitAnd m_Grid_and) (S_law_narrow : FS P w K mg base cl 2 "_law_narrow" 2 m_law_narrow) (L_Grid : ClS K cl 0 ["start", "width"]) (S_law_wide : FS P w K mg base cl 2 "_law_wide" 2 m_law_wide) (S_law_joined : FS P w K mg base cl 4 "_law_joined" 2 m_law_joined) (cdv : Value) (A : Around) (outer : List Env) (s : Shared) (H : Hp) (E : XK) (hr : Room 6 (A.deeper (envOfC "_law_pair_right" (defScope s_law_pair_right) s.heap.objs.size f cdv))) :
    SS (cxOf CX0 P w K mg base ["_law_mine", "_law_its", "_law_first", "_law_last", "_law_there", "_law_back", "_law_got", "_law_both", "_law_due", "_law_k"] "_law_pair_right" (defScope s_law_pair_right) f cdv A outer s H E).nox cl ((defBody s_law_pair_right).getD 0 (.Pass ⟨0, 0, 0, 0⟩)) m_law_pair_right_0 := by
  exact (ss_par (ci := false) (cj := false) (i := 2) (j := 3) sc_law_pair_right.nd (se_make S_Grid_init hr (by decide) (sa_cons (se_ix (se_var (i := 0)) se_int) (sa_cons (se_ix (se_var (i := 0)) se_int) sa_nil))) (se_make S_Grid_init hr (by decide) (sa_cons (se_ix (se_var (i := 1)) se_int) (sa_cons (se_ix (se_var (i := 1)) se_int) sa_nil))))
theorem t_law_pair_right_1 {f : Addr} (B : Bt mg) (S_Grid_init : FI P w K mg base cl 1 0 "Grid" 3 m_Grid_init) (S_law_is_finer : FS P w K mg base cl 1 "_law_is_finer" 2 m_law_is_finer) (CM_Grid_eq_Eq : FCm P w K mg base cl 2 0 1 .Eq m_Grid_eq) (RM_Grid_eq_Eq : FRm P w K mg base cl 2 0 .Eq m_Grid_eq) (CM_Grid_gt_Gt : FCm P w K mg base cl 2 0 1 .Gt m_Grid_gt) (RM_Grid_lt_Gt : FRm P w K mg base cl 3 0 .Gt m_Grid_lt) (CM_Grid_ge_GtE : FCm P w K mg base cl 1 0 1 .GtE m_Grid_ge) (RM_Grid_le_GtE : FRm P w K mg base cl 3 0 .GtE m_Grid_le) (CM_Grid_lt_Lt : FCm P w K mg base cl 3 0 1 .Lt m_Grid_lt) (RM_Grid_gt_Lt : FRm P w K mg base cl 2 0 .Lt m_Grid_gt) (CM_Grid_le_LtE : FCm P w K mg base cl 3 0 1 .LtE m_Grid_le) (RM_Grid_ge_LtE : FRm P w K mg base cl 1 0 .LtE m_Grid_ge) (S_law_same : FS P w K mg base cl 6 "_law_same" 2 (m_law_same 5)) (O_Grid_and : FO P w K mg base cl 3 0 .BitAnd m_Grid_and) (ON_Grid_and : FON P w K mg base cl 3 0 .BitAnd m_Grid_and) (S_law_narrow : FS P w K mg base cl 2 "_law_narrow" 2 m_law_narrow) (L_Grid : ClS K cl 0 ["start", "width"]) (S_law_wide : FS P w K mg base cl 2 "_law_wide" 2 m_law_wide) (S_law_joined : FS P w K mg base cl 4 "_law_joined" 2 m_law_joined) (cdv : Value) (A : Around) (outer : List Env) (s : Shared) (H : Hp) (E : XK) (hr : Room 6 (A.deeper (envOfC "_law_pair_right" (defScope s_law_pair_right) s.heap.objs.size f cdv))) :
    SS (cxOf CX0 P w K mg base ["_law_mine", "_law_its", "_law_first", "_law_last", "_law_there", "_law_back", "_law_got", "_law_both", "_law_due", "_law_k"] "_law_pair_right" (defScope s_law_pair_right) f cdv A outer s H E).nox cl ((defBody s_law_pair_right).getD 1 (.Pass ⟨0, 0, 0, 0⟩)) m_law_pair_right_1 := by
  exact (ss_par (ci := false) (cj := false) (i := 4) (j := 5) sc_law_pair_right.nd (se_call S_law_is_finer.x hr (by decide) (sa_cons (se_var (i := 0)) (sa_cons (se_var (i := 1)) sa_nil))) (se_call S_law_is_finer.x hr (by decide) (sa_cons (se_var (i := 1)) (sa_cons (se_var (i := 0)) sa_nil))))
theorem t_law_pair_right_2 {f : Addr} (B : Bt mg) (S_Grid_init : FI P w K mg base cl 1 0 "Grid" 3 m_Grid_init) (S_law_is_finer : FS P w K mg base cl 1 "_law_is_finer" 2 m_law_is_finer) (CM_Grid_eq_Eq : FCm P w K mg base cl 2 0 1 .Eq m_Grid_eq) (RM_Grid_eq_Eq : FRm P w K mg base cl 2 0 .Eq m_Grid_eq) (CM_Grid_gt_Gt : FCm P w K mg base cl 2 0 1 .Gt m_Grid_gt) (RM_Grid_lt_Gt : FRm P w K mg base cl 3 0 .Gt m_Grid_lt) (CM_Grid_ge_GtE : FCm P w K mg base cl 1 0 1 .GtE m_Grid_ge) (RM_Grid_le_GtE : FRm P w K mg base cl 3 0 .GtE m_Grid_le) (CM_Grid_lt_Lt : FCm P w K mg base cl 3 0 1 .Lt m_Grid_lt) (RM_Grid_gt_Lt : FRm P w K mg base cl 2 0 .Lt m_Grid_gt) (CM_Grid_le_LtE : FCm P w K mg base cl 3 0 1 .LtE m_Grid_le) (RM_Grid_ge_LtE : FRm P w K mg base cl 1 0 .LtE m_Grid_ge) (S_law_same : FS P w K mg base cl 6 "_law_same" 2 (m_law_same 5)) (O_Grid_and : FO P w K mg base cl 3 0 .BitAnd m_Grid_and) (ON_Grid_and : FON P w K mg base cl 3 0 .BitAnd m_Grid_and) (S_law_narrow : FS P w K mg base cl 2 "_law_narrow" 2 m_law_narrow) (L_Grid : ClS K cl 0 ["start", "width"]) (S_law_wide : FS P w K mg base cl 2 "_law_wide" 2 m_law_wide) (S_law_joined : FS P w K mg base cl 4 "_law_joined" 2 m_law_joined) (cdv : Value) (A : Around) (outer : List Env) (s : Shared) (H : Hp) (E : XK) (hr : Room 6 (A.deeper (envOfC "_law_pair_right" (defScope s_law_pair_right) s.heap.objs.size f cdv))) :
    SS (cxOf CX0 P w K mg base ["_law_mine", "_law_its", "_law_first", "_law_last", "_law_there", "_law_back", "_law_got", "_law_both", "_law_due", "_law_k"] "_law_pair_right" (defScope s_law_pair_right) f cdv A outer s H E).nox cl ((defBody s_law_pair_right).getD 2 (.Pass ⟨0, 0, 0, 0⟩)) m_law_pair_right_2 := by
  exact (ss_set (i := 6) sc_law_pair_right.nd (se_lst (sa_cons (se_cG (CmpG.or cmp_leB (CmpG.or (cmpI (fun _ _ => rfl) CM_Grid_le_LtE.cx hr (by decide)) (cmpN (fun _ _ => rfl) PySem.F.slot_int_le dec_le RM_Grid_ge_LtE.cx hr (by decide)))) (se_var (i := 2)) (se_var (i := 3))) (sa_cons (se_cG (CmpG.or (cmp_ltB hr.units) (CmpG.or (cmpI (fun _ _ => rfl) CM_Grid_lt_Lt.cx hr (by decide)) (cmpN (fun _ _ => rfl) PySem.F.slot_int_lt dec_lt RM_Grid_gt_Lt.cx hr (by decide)))) (se_var (i := 2)) (se_var (i := 3))) (sa_cons (se_cG (CmpG.or cmp_geB (CmpG.or (cmpI (fun _ _ => rfl) CM_Grid_ge_GtE.cx hr (by decide)) (cmpN (fun _ _ => rfl) PySem.F.slot_int_ge dec_ge RM_Grid_le_GtE.cx hr (by decide)))) (se_var (i := 2)) (se_var (i := 3))) (sa_cons (se_cG (CmpG.or cmp_gtB (CmpG.or (cmpI (fun _ _ => rfl) CM_Grid_gt_Gt.cx hr (by decide)) (cmpN (fun _ _ => rfl) PySem.F.slot_int_gt dec_gt RM_Grid_lt_Gt.cx hr (by decide)))) (se_var (i := 2)) (se_var (i := 3))) (sa_cons (se_cG (CmpG.or (cmp_eqB hr.units) (CmpG.or (cmpI (fun _ _ => rfl) CM_Grid_eq_Eq.cx hr (by decide)) (cmpN (fun _ _ => rfl) PySem.F.slot_int_eq dec_eq RM_Grid_eq_Eq.cx hr (by decide)))) (se_var (i := 2)) (se_var (i := 3))) sa_nil)))))))
theorem t_law_pair_right_3 {f : Addr} (B : Bt mg) (S_Grid_init : FI P w K mg base cl 1 0 "Grid" 3 m_Grid_init) (S_law_is_finer : FS P w K mg base cl 1 "_law_is_finer" 2 m_law_is_finer) (CM_Grid_eq_Eq : FCm P w K mg base cl 2 0 1 .Eq m_Grid_eq) (RM_Grid_eq_Eq : FRm P w K mg base cl 2 0 .Eq m_Grid_eq) (CM_Grid_gt_Gt : FCm P w K mg base cl 2 0 1 .Gt m_Grid_gt) (RM_Grid_lt_Gt : FRm P w K mg base cl 3 0 .Gt m_Grid_lt) (CM_Grid_ge_GtE : FCm P w K mg base cl 1 0 1 .GtE m_Grid_ge) (RM_Grid_le_GtE : FRm P w K mg base cl 3 0 .GtE m_Grid_le) (CM_Grid_lt_Lt : FCm P w K mg base cl 3 0 1 .Lt m_Grid_lt) (RM_Grid_gt_Lt : FRm P w K mg base cl 2 0 .Lt m_Grid_gt) (CM_Grid_le_LtE : FCm P w K mg base cl 3 0 1 .LtE m_Grid_le) (RM_Grid_ge_LtE : FRm P w K mg base cl 1 0 .LtE m_Grid_ge) (S_law_same : FS P w K mg base cl 6 "_law_same" 2 (m_law_same 5)) (O_Grid_and : FO P w K mg base cl 3 0 .BitAnd m_Grid_and) (ON_Grid_and : FON P w K mg base cl 3 0 .BitAnd m_Grid_and) (S_law_narrow : FS P w K mg base cl 2 "_law_narrow" 2 m_law_narrow) (L_Grid : ClS K cl 0 ["start", "width"]) (S_law_wide : FS P w K mg base cl 2 "_law_wide" 2 m_law_wide) (S_law_joined : FS P w K mg base cl 4 "_law_joined" 2 m_law_joined) (cdv : Value) (A : Around) (outer : List Env) (s : Shared) (H : Hp) (E : XK) (hr : Room 6 (A.deeper (envOfC "_law_pair_right" (defScope s_law_pair_right) s.heap.objs.size f cdv))) :
    SS (cxOf CX0 P w K mg base ["_law_mine", "_law_its", "_law_first", "_law_last", "_law_there", "_law_back", "_law_got", "_law_both", "_law_due", "_law_k"] "_law_pair_right" (defScope s_law_pair_right) f cdv A outer s H E).nox cl ((sub1 ((defBody s_law_pair_right).getD 3 (.Pass ⟨0, 0, 0, 0⟩))).getD 0 (.Pass ⟨0, 0, 0, 0⟩)) m_law_pair_right_3 := by
  exact (ss_ret se_bl)
theorem t_law_pair_right_4 {f : Addr} (B : Bt mg) (S_Grid_init : FI P w K mg base cl 1 0 "Grid" 3 m_Grid_init) (S_law_is_finer : FS P w K mg base cl 1 "_law_is_finer" 2 m_law_is_finer) (CM_Grid_eq_Eq : FCm P w K mg base cl 2 0 1 .Eq m_Grid_eq) (RM_Grid_eq_Eq : FRm P w K mg base cl 2 0 .Eq m_Grid_eq) (CM_Grid_gt_Gt : FCm P w K mg base cl 2 0 1 .Gt m_Grid_gt) (RM_Grid_lt_Gt : FRm P w K mg base cl 3 0 .Gt m_Grid_lt) (CM_Grid_ge_GtE : FCm P w K mg base cl 1 0 1 .GtE m_Grid_ge) (RM_Grid_le_GtE : FRm P w K mg base cl 3 0 .GtE m_Grid_le) (CM_Grid_lt_Lt : FCm P w K mg base cl 3 0 1 .Lt m_Grid_lt) (RM_Grid_gt_Lt : FRm P w K mg base cl 2 0 .Lt m_Grid_gt) (CM_Grid_le_LtE : FCm P w K mg base cl 3 0 1 .LtE m_Grid_le) (RM_Grid_ge_LtE : FRm P w K mg base cl 1 0 .LtE m_Grid_ge) (S_law_same : FS P w K mg base cl 6 "_law_same" 2 (m_law_same 5)) (O_Grid_and : FO P w K mg base cl 3 0 .BitAnd m_Grid_and) (ON_Grid_and : FON P w K mg base cl 3 0 .BitAnd m_Grid_and) (S_law_narrow : FS P w K mg base cl 2 "_law_narrow" 2 m_law_narrow) (L_Grid : ClS K cl 0 ["start", "width"]) (S_law_wide : FS P w K mg base cl 2 "_law_wide" 2 m_law_wide) (S_law_joined : FS P w K mg base cl 4 "_law_joined" 2 m_law_joined) (cdv : Value) (A : Around) (outer : List Env) (s : Shared) (H : Hp) (E : XK) (hr : Room 6 (A.deeper (envOfC "_law_pair_right" (defScope s_law_pair_right) s.heap.objs.size f cdv))) :
    SS (cxOf CX0 P w K mg base ["_law_mine", "_law_its", "_law_first", "_law_last", "_law_there", "_law_back", "_law_got", "_law_both", "_law_due", "_law_k"] "_law_pair_right" (defScope s_law_pair_right) f cdv A outer s H E).nox cl ((defBody s_law_pair_right).getD 3 (.Pass ⟨0, 0, 0, 0⟩)) m_law_pair_right_4 := by
  exact (ss_if (st_not (st_val (se_call S_law_same.x hr (by decide) (sa_cons (se_var (i := 6)) (sa_cons (se_lst (sa_cons (se_var (i := 4)) (sa_cons (se_and (se_var (i := 4)) (se_one (se_not (se_var (i := 5))))) (sa_cons (se_var (i := 5)) (sa_cons (se_and (se_var (i := 5)) (se_one (se_not (se_var (i := 4))))) (sa_cons (se_and (se_var (i := 4)) (se_one (se_var (i := 5)))) sa_nil)))))) sa_nil))))) (sss_one (t_law_pair_right_3 B S_Grid_init S_law_is_finer CM_Grid_eq_Eq RM_Grid_eq_Eq CM_Grid_gt_Gt RM_Grid_lt_Gt CM_Grid_ge_GtE RM_Grid_le_GtE CM_Grid_lt_Lt RM_Grid_gt_Lt CM_Grid_le_LtE RM_Grid_ge_LtE S_law_same O_Grid_and ON_Grid_and S_law_narrow L_Grid S_law_wide S_law_joined cdv A outer s H E hr)) sss_nil)
theorem t_law_pair_right_5 {f : Addr} (B : Bt mg) (S_Grid_init : FI P w K mg base cl 1 0 "Grid" 3 m_Grid_init) (S_law_is_finer : FS P w K mg base cl 1 "_law_is_finer" 2 m_law_is_finer) (CM_Grid_eq_Eq : FCm P w K mg base cl 2 0 1 .Eq m_Grid_eq) (RM_Grid_eq_Eq : FRm P w K mg base cl 2 0 .Eq m_Grid_eq) (CM_Grid_gt_Gt : FCm P w K mg base cl 2 0 1 .Gt m_Grid_gt) (RM_Grid_lt_Gt : FRm P w K mg base cl 3 0 .Gt m_Grid_lt) (CM_Grid_ge_GtE : FCm P w K mg base cl 1 0 1 .GtE m_Grid_ge) (RM_Grid_le_GtE : FRm P w K mg base cl 3 0 .GtE m_Grid_le) (CM_Grid_lt_Lt : FCm P w K mg base cl 3 0 1 .Lt m_Grid_lt) (RM_Grid_gt_Lt : FRm P w K mg base cl 2 0 .Lt m_Grid_gt) (CM_Grid_le_LtE : FCm P w K mg base cl 3 0 1 .LtE m_Grid_le) (RM_Grid_ge_LtE : FRm P w K mg base cl 1 0 .LtE m_Grid_ge) (S_law_same : FS P w K mg base cl 6 "_law_same" 2 (m_law_same 5)) (O_Grid_and : FO P w K mg base cl 3 0 .BitAnd m_Grid_and) (ON_Grid_and : FON P w K mg base cl 3 0 .BitAnd m_Grid_and) (S_law_narrow : FS P w K mg base cl 2 "_law_narrow" 2 m_law_narrow) (L_Grid : ClS K cl 0 ["start", "width"]) (S_law_wide : FS P w K mg base cl 2 "_law_wide" 2 m_law_wide) (S_law_joined : FS P w K mg base cl 4 "_law_joined" 2 m_law_joined) (cdv : Value) (A : Around) (outer : List Env) (s : Shared) (H : Hp) (E : XK) (hr : Room 6 (A.deeper (envOfC "_law_pair_right" (defScope s_law_pair_right) s.heap.objs.size f cdv))) :
    SS (cxOf CX0 P w K mg base ["_law_mine", "_law_its", "_law_first", "_law_last", "_law_there", "_law_back", "_law_got", "_law_both", "_law_due", "_law_k"] "_law_pair_right" (defScope s_law_pair_right) f cdv A outer s H E).nox cl ((defBody s_law_pair_right).getD 4 (.Pass ⟨0, 0, 0, 0⟩)) m_law_pair_right_5 := by
  exact (ss_par (ci := false) (cj := false) (i := 7) (j := 8) sc_law_pair_right.nd (se_binG (BinG.or (binII O_Grid_and.cx hr (by decide)) (binIN ON_Grid_and.cx hr (by decide))) (se_var (i := 2)) (se_var (i := 3))) (se_call S_law_narrow.x hr (by decide) (sa_cons (se_var (i := 0)) (sa_cons (se_var (i := 1)) sa_nil))))
theorem t_law_pair_right_6 {f : Addr} (B : Bt mg) (S_Grid_init : FI P w K mg base cl 1 0 "Grid" 3 m_Grid_init) (S_law_is_finer : FS P w K mg base cl 1 "_law_is_finer" 2 m_law_is_finer) (CM_Grid_eq_Eq : FCm P w K mg base cl 2 0 1 .Eq m_Grid_eq) (RM_Grid_eq_Eq : FRm P w K mg base cl 2 0 .Eq m_Grid_eq) (CM_Grid_gt_Gt : FCm P w K mg base cl 2 0 1 .Gt m_Grid_gt) (RM_Grid_lt_Gt : FRm P w K mg base cl 3 0 .Gt m_Grid_lt) (CM_Grid_ge_GtE : FCm P w K mg base cl 1 0 1 .GtE m_Grid_ge) (RM_Grid_le_GtE : FRm P w K mg base cl 3 0 .GtE m_Grid_le) (CM_Grid_lt_Lt : FCm P w K mg base cl 3 0 1 .Lt m_Grid_lt) (RM_Grid_gt_Lt : FRm P w K mg base cl 2 0 .Lt m_Grid_gt) (CM_Grid_le_LtE : FCm P w K mg base cl 3 0 1 .LtE m_Grid_le) (RM_Grid_ge_LtE : FRm P w K mg base cl 1 0 .LtE m_Grid_ge) (S_law_same : FS P w K mg base cl 6 "_law_same" 2 (m_law_same 5)) (O_Grid_and : FO P w K mg base cl 3 0 .BitAnd m_Grid_and) (ON_Grid_and : FON P w K mg base cl 3 0 .BitAnd m_Grid_and) (S_law_narrow : FS P w K mg base cl 2 "_law_narrow" 2 m_law_narrow) (L_Grid : ClS K cl 0 ["start", "width"]) (S_law_wide : FS P w K mg base cl 2 "_law_wide" 2 m_law_wide) (S_law_joined : FS P w K mg base cl 4 "_law_joined" 2 m_law_joined) (cdv : Value) (A : Around) (outer : List Env) (s : Shared) (H : Hp) (E : XK) (hr : Room 6 (A.deeper (envOfC "_law_pair_right" (defScope s_law_pair_right) s.heap.objs.size f cdv))) :
    SS (cxOf CX0 P w K mg base ["_law_mine", "_law_its", "_law_first", "_law_last", "_law_there", "_law_back", "_law_got", "_law_both", "_law_due", "_law_k"] "_law_pair_right" (defScope s_law_pair_right) f cdv A outer s H E).nox cl ((sub1 ((defBody s_law_pair_right).getD 5 (.Pass ⟨0, 0, 0, 0⟩))).getD 0 (.Pass ⟨0, 0, 0, 0⟩)) m_law_pair_right_6 := by
  exact (ss_ret se_bl)
theorem t_law_pair_right_7 {f : Addr} (B : Bt mg) (S_Grid_init : FI P w K mg base cl 1 0 "Grid" 3 m_Grid_init) (S_law_is_finer : FS P w K mg base cl 1 "_law_is_finer" 2 m_law_is_finer) (CM_Grid_eq_Eq : FCm P w K mg base cl 2 0 1 .Eq m_Grid_eq) (RM_Grid_eq_Eq : FRm P w K mg base cl 2 0 .Eq m_Grid_eq) (CM_Grid_gt_Gt : FCm P w K mg base cl 2 0 1 .Gt m_Grid_gt) (RM_Grid_lt_Gt : FRm P w K mg base cl 3 0 .Gt m_Grid_lt) (CM_Grid_ge_GtE : FCm P w K mg base cl 1 0 1 .GtE m_Grid_ge) (RM_Grid_le_GtE : FRm P w K mg base cl 3 0 .GtE m_Grid_le) (CM_Grid_lt_Lt : FCm P w K mg base cl 3 0 1 .Lt m_Grid_lt) (RM_Grid_gt_Lt : FRm P w K mg base cl 2 0 .Lt m_Grid_gt) (CM_Grid_le_LtE : FCm P w K mg base cl 3 0 1 .LtE m_Grid_le) (RM_Grid_ge_LtE : FRm P w K mg base cl 1 0 .LtE m_Grid_ge) (S_law_same : FS P w K mg base cl 6 "_law_same" 2 (m_law_same 5)) (O_Grid_and : FO P w K mg base cl 3 0 .BitAnd m_Grid_and) (ON_Grid_and : FON P w K mg base cl 3 0 .BitAnd m_Grid_and) (S_law_narrow : FS P w K mg base cl 2 "_law_narrow" 2 m_law_narrow) (L_Grid : ClS K cl 0 ["start", "width"]) (S_law_wide : FS P w K mg base cl 2 "_law_wide" 2 m_law_wide) (S_law_joined : FS P w K mg base cl 4 "_law_joined" 2 m_law_joined) (cdv : Value) (A : Around) (outer : List Env) (s : Shared) (H : Hp) (E : XK) (hr : Room 6 (A.deeper (envOfC "_law_pair_right" (defScope s_law_pair_right) s.heap.objs.size f cdv))) :
    SS (cxOf CX0 P w K mg base ["_law_mine", "_law_its", "_law_first", "_law_last", "_law_there", "_law_back", "_law_got", "_law_both", "_law_due", "_law_k"] "_law_pair_right" (defScope s_law_pair_right) f cdv A outer s H E).nox cl ((defBody s_law_pair_right).getD 5 (.Pass ⟨0, 0, 0, 0⟩)) m_law_pair_right_7 := by
  exact (ss_if (st_not (st_val (se_call S_law_same.x hr (by decide) (sa_cons (se_lst (sa_cons (se_attr (c := 0) (i := 1) L_Grid (se_var (i := 7))) (sa_cons (se_attr (c := 0) (i := 0) L_Grid (se_var (i := 7))) (sa_cons (se_cG (CmpG.or (cmp_eqB hr.units) (CmpG.or (cmpI (fun _ _ => rfl) CM_Grid_eq_Eq.cx hr (by decide)) (cmpN (fun _ _ => rfl) PySem.F.slot_int_eq dec_eq RM_Grid_eq_Eq.cx hr (by decide)))) (se_binG (BinG.or (binII O_Grid_and.cx hr (by decide)) (binIN ON_Grid_and.cx hr (by decide))) (se_var (i := 3)) (se_var (i := 2))) (se_var (i := 7))) sa_nil)))) (sa_cons (se_lst (sa_cons (se_ix (se_var (i := 8)) se_int) (sa_cons (se_ix (se_var (i := 8)) se_int) (sa_cons se_bl sa_nil)))) sa_nil))))) (sss_one (t_law_pair_right_6 B S_Grid_init S_law_is_finer CM_Grid_eq_Eq RM_Grid_eq_Eq CM_Grid_gt_Gt RM_Grid_lt_Gt CM_Grid_ge_GtE RM_Grid_le_GtE CM_Grid_lt_Lt RM_Grid_gt_Lt CM_Grid_le_LtE RM_Grid_ge_LtE S_law_same O_Grid_and ON_Grid_and S_law_narrow L_Grid S_law_wide S_law_joined cdv A outer s H E hr)) sss_nil)
theorem t_law_pair_right_8 {f : Addr} (B : Bt mg) (S_Grid_init : FI P w K mg base cl 1 0 "Grid" 3 m_Grid_init) (S_law_is_finer : FS P w K mg base cl 1 "_law_is_finer" 2 m_law_is_finer) (CM_Grid_eq_Eq : FCm P w K mg base cl 2 0 1 .Eq m_Grid_eq) (RM_Grid_eq_Eq : FRm P w K mg base cl 2 0 .Eq m_Grid_eq) (CM_Grid_gt_Gt : FCm P w K mg base cl 2 0 1 .Gt m_Grid_gt) (RM_Grid_lt_Gt : FRm P w K mg base cl 3 0 .Gt m_Grid_lt) (CM_Grid_ge_GtE : FCm P w K mg base cl 1 0 1 .GtE m_Grid_ge) (RM_Grid_le_GtE : FRm P w K mg base cl 3 0 .GtE m_Grid_le) (CM_Grid_lt_Lt : FCm P w K mg base cl 3 0 1 .Lt m_Grid_lt) (RM_Grid_gt_Lt : FRm P w K mg base cl 2 0 .Lt m_Grid_gt) (CM_Grid_le_LtE : FCm P w K mg base cl 3 0 1 .LtE m_Grid_le) (RM_Grid_ge_LtE : FRm P w K mg base cl 1 0 .LtE m_Grid_ge) (S_law_same : FS P w K mg base cl 6 "_law_same" 2 (m_law_same 5)) (O_Grid_and : FO P w K mg base cl 3 0 .BitAnd m_Grid_and) (ON_Grid_and : FON P w K mg base cl 3 0 .BitAnd m_Grid_and) (S_law_narrow : FS P w K mg base cl 2 "_law_narrow" 2 m_law_narrow) (L_Grid : ClS K cl 0 ["start", "width"]) (S_law_wide : FS P w K mg base cl 2 "_law_wide" 2 m_law_wide) (S_law_joined : FS P w K mg base cl 4 "_law_joined" 2 m_law_joined) (cdv : Value) (A : Around) (outer : List Env) (s : Shared) (H : Hp) (E : XK) (hr : Room 6 (A.deeper (envOfC "_law_pair_right" (defScope s_law_pair_right) s.heap.objs.size f cdv))) :
    SS (cxOf CX0 P w K mg base ["_law_mine", "_law_its", "_law_first", "_law_last", "_law_there", "_law_back", "_law_got", "_law_both", "_law_due", "_law_k"] "_law_pair_right" (defScope s_law_pair_right) f cdv A outer s H E).nox cl ((defBody s_law_pair_right).getD 6 (.Pass ⟨0, 0, 0, 0⟩)) m_law_pair_right_8 := by
  exact (ss_set (i := 8) sc_law_pair_right.nd (se_call S_law_wide.x hr (by decide) (sa_cons (se_var (i := 0)) (sa_cons (se_var (i := 1)) sa_nil))))
theorem t_law_pair_right_11 {f : Addr} (B : Bt mg) (S_Grid_init : FI P w K mg base cl 1 0 "Grid" 3 m_Grid_init) (S_law_is_finer : FS P w K mg base cl 1 "_law_is_finer" 2 m_law_is_finer) (CM_Grid_eq_Eq : FCm P w K mg base cl 2 0 1 .Eq m_Grid_eq) (RM_Grid_eq_Eq : FRm P w K mg base cl 2 0 .Eq m_Grid_eq) (CM_Grid_gt_Gt : FCm P w K mg base cl 2 0 1 .Gt m_Grid_gt) (RM_Grid_lt_Gt : FRm P w K mg base cl 3 0 .Gt m_Grid_lt) (CM_Grid_ge_GtE : FCm P w K mg base cl 1 0 1 .GtE m_Grid_ge) (RM_Grid_le_GtE : FRm P w K mg base cl 3 0 .GtE m_Grid_le) (CM_Grid_lt_Lt : FCm P w K mg base cl 3 0 1 .Lt m_Grid_lt) (RM_Grid_gt_Lt : FRm P w K mg base cl 2 0 .Lt m_Grid_gt) (CM_Grid_le_LtE : FCm P w K mg base cl 3 0 1 .LtE m_Grid_le) (RM_Grid_ge_LtE : FRm P w K mg base cl 1 0 .LtE m_Grid_ge) (S_law_same : FS P w K mg base cl 6 "_law_same" 2 (m_law_same 5)) (O_Grid_and : FO P w K mg base cl 3 0 .BitAnd m_Grid_and) (ON_Grid_and : FON P w K mg base cl 3 0 .BitAnd m_Grid_and) (S_law_narrow : FS P w K mg base cl 2 "_law_narrow" 2 m_law_narrow) (L_Grid : ClS K cl 0 ["start", "width"]) (S_law_wide : FS P w K mg base cl 2 "_law_wide" 2 m_law_wide) (S_law_joined : FS P w K mg base cl 4 "_law_joined" 2 m_law_joined) (cdv : Value) (A : Around) (outer : List Env) (s : Shared) (H : Hp) (E : XK) (hr : Room 6 (A.deeper (envOfC "_law_pair_right" (defScope s_law_pair_right) s.heap.objs.size f cdv))) :
    SS (cxOf CX0 P w K mg base ["_law_mine", "_law_its", "_law_first", "_law_last", "_law_there", "_law_back", "_law_got", "_law_both", "_law_due", "_law_k"] "_law_pair_right" (defScope s_law_pair_right) f cdv A outer s H E).nox cl ((sub1 ((defBody s_law_pair_right).getD 7 (.Pass ⟨0, 0, 0, 0⟩))).getD 0 (.Pass ⟨0, 0, 0, 0⟩)) m_law_pair_right_11 := by
  exact (ss_setLc (i := 7) (own := [("_law_k", 9)]) sc_law_pair_right.nd (si_range2 B.range (sa_cons se_int (sa_cons (se_add (se_ix (se_var (i := 0)) se_int) se_int) sa_nil))) (sem_name (by decide)) (fun _ _ _ _ _ => (sg_name (cl := cl) (vs := [9]) (i := 9) sc_law_pair_right.nd).1) (fun _ _ _ _ _ => (stt_one (st_w (sw_and (st_cG (CmpG.or (cmp_eqB hr.units) (CmpG.or (cmpI (fun _ _ => rfl) CM_Grid_eq_Eq.cx hr (by decide)) (cmpN (fun _ _ => rfl) PySem.F.slot_int_eq dec_eq RM_Grid_eq_Eq.cx hr (by decide)))) (se_mod (se_int1 B.int (sa_cons (se_ix (se_var (i := 0)) se_int) sa_nil)) (se_var (i := 9))) se_int) (sw_and1 (st_cG (CmpG.or (cmp_eqB hr.units) (CmpG.or (cmpI (fun _ _ => rfl) CM_Grid_eq_Eq.cx hr (by decide)) (cmpN (fun _ _ => rfl) PySem.F.slot_int_eq dec_eq RM_Grid_eq_Eq.cx hr (by decide)))) (se_mod (se_int1 B.int (sa_cons (se_ix (se_var (i := 1)) se_int) sa_nil)) (se_var (i := 9))) se_int)))))) (fun _ _ _ _ _ => (se_var (i := 9))) (blkOk_by (by kernel_rfl)) (sw_true rfl rfl rfl (by decide +kernel)))
theorem t_law_pair_right_12 {f : Addr} (B : Bt mg) (S_Grid_init : FI P w K mg base cl 1 0 "Grid" 3 m_Grid_init) (S_law_is_finer : FS P w K mg base cl 1 "_law_is_finer" 2 m_law_is_finer) (CM_Grid_eq_Eq : FCm P w K mg base cl 2 0 1 .Eq m_Grid_eq) (RM_Grid_eq_Eq : FRm P w K mg base cl 2 0 .Eq m_Grid_eq) (CM_Grid_gt_Gt : FCm P w K mg base cl 2 0 1 .Gt m_Grid_gt) (RM_Grid_lt_Gt : FRm P w K mg base cl 3 0 .Gt m_Grid_lt) (CM_Grid_ge_GtE : FCm P w K mg base cl 1 0 1 .GtE m_Grid_ge) (RM_Grid_le_GtE : FRm P w K mg base cl 3 0 .GtE m_Grid_le) (CM_Grid_lt_Lt : FCm P w K mg base cl 3 0 1 .Lt m_Grid_lt) (RM_Grid_gt_Lt : FRm P w K mg base cl 2 0 .Lt m_Grid_gt) (CM_Grid_le_LtE : FCm P w K mg base cl 3 0 1 .LtE m_Grid_le) (RM_Grid_ge_LtE : FRm P w K mg base cl 1 0 .LtE m_Grid_ge) (S_law_same : FS P w K mg base cl 6 "_law_same" 2 (m_law_same 5)) (O_Grid_and : FO P w K mg base cl 3 0 .BitAnd m_Grid_and) (ON_Grid_and : FON P w K mg base cl 3 0 .BitAnd m_Grid_and) (S_law_narrow : FS P w K mg base cl 2 "_law_narrow" 2 m_law_narrow) (L_Grid : ClS K cl 0 ["start", "width"]) (S_law_wide : FS P w K mg base cl 2 "_law_wide" 2 m_law_wide) (S_law_joined : FS P w K mg base cl 4 "_law_joined" 2 m_law_joined) (cdv : Value) (A : Around) (outer : List Env) (s : Shared) (H : Hp) (E : XK) (hr : Room 6 (A.deeper (envOfC "_law_pair_right" (defScope s_law_pair_right) s.heap.objs.size f cdv))) :
    SS (cxOf CX0 P w K mg base ["_law_mine", "_law_its", "_law_first", "_law_last", "_law_there", "_law_back", "_law_got", "_law_both", "_law_due", "_law_k"] "_law_pair_right" (defScope s_law_pair_right) f cdv A outer s H E).nox cl ((sub1 ((defBody s_law_pair_right).getD 7 (.Pass ⟨0, 0, 0, 0⟩))).getD 1 (.Pass ⟨0, 0, 0, 0⟩)) m_law_pair_right_12 := by
  exact (ss_set (i := 8) sc_law_pair_right.nd (se_lst (sa_cons (se_ix (se_var (i := 7)) (se_sub (se_len B.len (sa_cons (se_var (i := 7)) sa_nil)) se_int)) sa_nil)))
theorem t_law_pair_right_13 {f : Addr} (B : Bt mg) (S_Grid_init : FI P w K mg base cl 1 0 "Grid" 3 m_Grid_init) (S_law_is_finer : FS P w K mg base cl 1 "_law_is_finer" 2 m_law_is_finer) (CM_Grid_eq_Eq : FCm P w K mg base cl 2 0 1 .Eq m_Grid_eq) (RM_Grid_eq_Eq : FRm P w K mg base cl 2 0 .Eq m_Grid_eq) (CM_Grid_gt_Gt : FCm P w K mg base cl 2 0 1 .Gt m_Grid_gt) (RM_Grid_lt_Gt : FRm P w K mg base cl 3 0 .Gt m_Grid_lt) (CM_Grid_ge_GtE : FCm P w K mg base cl 1 0 1 .GtE m_Grid_ge) (RM_Grid_le_GtE : FRm P w K mg base cl 3 0 .GtE m_Grid_le) (CM_Grid_lt_Lt : FCm P w K mg base cl 3 0 1 .Lt m_Grid_lt) (RM_Grid_gt_Lt : FRm P w K mg base cl 2 0 .Lt m_Grid_gt) (CM_Grid_le_LtE : FCm P w K mg base cl 3 0 1 .LtE m_Grid_le) (RM_Grid_ge_LtE : FRm P w K mg base cl 1 0 .LtE m_Grid_ge) (S_law_same : FS P w K mg base cl 6 "_law_same" 2 (m_law_same 5)) (O_Grid_and : FO P w K mg base cl 3 0 .BitAnd m_Grid_and) (ON_Grid_and : FON P w K mg base cl 3 0 .BitAnd m_Grid_and) (S_law_narrow : FS P w K mg base cl 2 "_law_narrow" 2 m_law_narrow) (L_Grid : ClS K cl 0 ["start", "width"]) (S_law_wide : FS P w K mg base cl 2 "_law_wide" 2 m_law_wide) (S_law_joined : FS P w K mg base cl 4 "_law_joined" 2 m_law_joined) (cdv : Value) (A : Around) (outer : List Env) (s : Shared) (H : Hp) (E : XK) (hr : Room 6 (A.deeper (envOfC "_law_pair_right" (defScope s_law_pair_right) s.heap.objs.size f cdv))) :
    SS (cxOf CX0 P w K mg base ["_law_mine", "_law_its", "_law_first", "_law_last", "_law_there", "_law_back", "_law_got", "_law_both", "_law_due", "_law_k"] "_law_pair_right" (defScope s_law_pair_right) f cdv A outer s H E).nox cl ((defBody s_law_pair_right).getD 7 (.Pass ⟨0, 0, 0, 0⟩)) m_law_pair_right_13 := by
  exact (ss_if (st_isN (se_var (i := 8)) se_non) (sss_cons (t_law_pair_right_11 B S_Grid_init S_law_is_finer CM_Grid_eq_Eq RM_Grid_eq_Eq CM_Grid_gt_Gt RM_Grid_lt_Gt CM_Grid_ge_GtE RM_Grid_le_GtE CM_Grid_lt_Lt RM_Grid_gt_Lt CM_Grid_le_LtE RM_Grid_ge_LtE S_law_same O_Grid_and ON_Grid_and S_law_narrow L_Grid S_law_wide S_law_joined cdv A outer s H E hr)
    (sss_one (t_law_pair_right_12 B S_Grid_init S_law_is_finer CM_Grid_eq_Eq RM_Grid_eq_Eq CM_Grid_gt_Gt RM_Grid_lt_Gt CM_Grid_ge_GtE RM_Grid_le_GtE CM_Grid_lt_Lt RM_Grid_gt_Lt CM_Grid_le_LtE RM_Grid_ge_LtE S_law_same O_Grid_and ON_Grid_and S_law_narrow L_Grid S_law_wide S_law_joined cdv A outer s H E hr))) sss_nil)
theorem t_law_pair_right_14 {f : Addr} (B : Bt mg) (S_Grid_init : FI P w K mg base cl 1 0 "Grid" 3 m_Grid_init) (S_law_is_finer : FS P w K mg base cl 1 "_law_is_finer" 2 m_law_is_finer) (CM_Grid_eq_Eq : FCm P w K mg base cl 2 0 1 .Eq m_Grid_eq) (RM_Grid_eq_Eq : FRm P w K mg base cl 2 0 .Eq m_Grid_eq) (CM_Grid_gt_Gt : FCm P w K mg base cl 2 0 1 .Gt m_Grid_gt) (RM_Grid_lt_Gt : FRm P w K mg base cl 3 0 .Gt m_Grid_lt) (CM_Grid_ge_GtE : FCm P w K mg base cl 1 0 1 .GtE m_Grid_ge) (RM_Grid_le_GtE : FRm P w K mg base cl 3 0 .GtE m_Grid_le) (CM_Grid_lt_Lt : FCm P w K mg base cl 3 0 1 .Lt m_Grid_lt) (RM_Grid_gt_Lt : FRm P w K mg base cl 2 0 .Lt m_Grid_gt) (CM_Grid_le_LtE : FCm P w K mg base cl 3 0 1 .LtE m_Grid_le) (RM_Grid_ge_LtE : FRm P w K mg base cl 1 0 .LtE m_Grid_ge) (S_law_same : FS P w K mg base cl 6 "_law_same" 2 (m_law_same 5)) (O_Grid_and : FO P w K mg base cl 3 0 .BitAnd m_Grid_and) (ON_Grid_and : FON P w K mg base cl 3 0 .BitAnd m_Grid_and) (S_law_narrow : FS P w K mg base cl 2 "_law_narrow" 2 m_law_narrow) (L_Grid : ClS K cl 0 ["start", "width"]) (S_law_wide : FS P w K mg base cl 2 "_law_wide" 2 m_law_wide) (S_law_joined : FS P w K mg base cl 4 "_law_joined" 2 m_law_joined) (cdv : Value) (A : Around) (outer : List Env) (s : Shared) (H : Hp) (E : XK) (hr : Room 6 (A.deeper (envOfC "_law_pair_right" (defScope s_law_pair_right) s.heap.objs.size f cdv))) :
    SS (cxOf CX0 P w K mg base ["_law_mine", "_law_its", "_law_first", "_law_last", "_law_there", "_law_back", "_law_got", "_law_both", "_law_due", "_law_k"] "_law_pair_right" (defScope s_law_pair_right) f cdv A outer s H E).nox cl ((defBody s_law_pair_right).getD 8 (.Pass ⟨0, 0, 0, 0⟩)) m_law_pair_right_14 := by
  exact (ss_ret (se_call S_law_same.x hr (by decide) (sa_cons (se_lst (sa_cons (se_call S_law_joined.x hr (by decide) (sa_cons (se_var (i := 2)) (sa_cons (se_var (i := 3)) sa_nil))) (sa_cons (se_call S_law_joined.x hr (by decide) (sa_cons (se_var (i := 3)) (sa_cons (se_var (i := 2)) sa_nil))) sa_nil))) (sa_cons (se_lst (sa_cons (se_var (i := 8)) (sa_cons (se_var (i := 8)) sa_nil))) sa_nil))))
theorem ok_law_pair_right {f : Addr} {fd : FuncData} (F : Fun K "_law_pair_right" "_law_pair_right" s_law_pair_right f fd) (B : Bt mg) (S_Grid_init : FI P w K mg base cl 1 0 "Grid" 3 m_Grid_init) (S_law_is_finer : FS P w K mg base cl 1 "_law_is_finer" 2 m_law_is_finer) (CM_Grid_eq_Eq : FCm P w K mg base cl 2 0 1 .Eq m_Grid_eq) (RM_Grid_eq_Eq : FRm P w K mg base cl 2 0 .Eq m_Grid_eq) (CM_Grid_gt_Gt : FCm P w K mg base cl 2 0 1 .Gt m_Grid_gt) (RM_Grid_lt_Gt : FRm P w K mg base cl 3 0 .Gt m_Grid_lt) (CM_Grid_ge_GtE : FCm P w K mg base cl 1 0 1 .GtE m_Grid_ge) (RM_Grid_le_GtE : FRm P w K mg base cl 3 0 .GtE m_Grid_le) (CM_Grid_lt_Lt : FCm P w K mg base cl 3 0 1 .Lt m_Grid_lt) (RM_Grid_gt_Lt : FRm P w K mg base cl 2 0 .Lt m_Grid_gt) (CM_Grid_le_LtE : FCm P w K mg base cl 3 0 1 .LtE m_Grid_le) (RM_Grid_ge_LtE : FRm P w K mg base cl 1 0 .LtE m_Grid_ge) (S_law_same : FS P w K mg base cl 6 "_law_same" 2 (m_law_same 5)) (O_Grid_and : FO P w K mg base cl 3 0 .BitAnd m_Grid_and) (ON_Grid_and : FON P w K mg base cl 3 0 .BitAnd m_Grid_and) (S_law_narrow : FS P w K mg base cl 2 "_law_narrow" 2 m_law_narrow) (L_Grid : ClS K cl 0 ["start", "width"]) (S_law_wide : FS P w K mg base cl 2 "_law_wide" 2 m_law_wide) (S_law_joined : FS P w K mg base cl 4 "_law_joined" 2 m_law_joined) : FnOk P w K mg base CX0 7 f fd ["_law_mine", "_law_its"] (spM K cl 2 m_law_pair_right) := by
  refine def_ok (N := ["_law_mine", "_law_its", "_law_first", "_law_last", "_law_there", "_law_back", "_law_got", "_law_both", "_law_due", "_law_k"]) (n := 2) F sc_law_pair_right rfl (fun cdv A outer s H E hr => ?_)
  exact (sss_cons (t_law_pair_right_0 B S_Grid_init S_law_is_finer CM_Grid_eq_Eq RM_Grid_eq_Eq CM_Grid_gt_Gt RM_Grid_lt_Gt CM_Grid_ge_GtE RM_Grid_le_GtE CM_Grid_lt_Lt RM_Grid_gt_Lt CM_Grid_le_LtE RM_Grid_ge_LtE S_law_same O_Grid_and ON_Grid_and S_law_narrow L_Grid S_law_wide S_law_joined cdv A outer s H E hr)
    (sss_cons (t_law_pair_right_1 B S_Grid_init S_law_is_finer CM_Grid_eq_Eq RM_Grid_eq_Eq CM_Grid_gt_Gt RM_Grid_lt_Gt CM_Grid_ge_GtE RM_Grid_le_GtE CM_Grid_lt_Lt RM_Grid_gt_Lt CM_Grid_le_LtE RM_Grid_ge_LtE S_law_same O_Grid_and ON_Grid_and S_law_narrow L_Grid S_law_wide S_law_joined cdv A outer s H E hr)
    (sss_cons (t_law_pair_right_2 B S_Grid_init S_law_is_finer CM_Grid_eq_Eq RM_Grid_eq_Eq CM_Grid_gt_Gt RM_Grid_lt_Gt CM_Grid_ge_GtE RM_Grid_le_GtE CM_Grid_lt_Lt RM_Grid_gt_Lt CM_Grid_le_LtE RM_Grid_ge_LtE S_law_same O_Grid_and ON_Grid_and S_law_narrow L_Grid S_law_wide S_law_joined cdv A outer s H E hr)
    (sss_cons (t_law_pair_right_4 B S_Grid_init S_law_is_finer CM_Grid_eq_Eq RM_Grid_eq_Eq CM_Grid_gt_Gt RM_Grid_lt_Gt CM_Grid_ge_GtE RM_Grid_le_GtE CM_Grid_lt_Lt RM_Grid_gt_Lt CM_Grid_le_LtE RM_Grid_ge_LtE S_law_same O_Grid_and ON_Grid_and S_law_narrow L_Grid S_law_wide S_law_joined cdv A outer s H E hr)
    (sss_cons (t_law_pair_right_5 B S_Grid_init S_law_is_finer CM_Grid_eq_Eq RM_Grid_eq_Eq CM_Grid_gt_Gt RM_Grid_lt_Gt CM_Grid_ge_GtE RM_Grid_le_GtE CM_Grid_lt_Lt RM_Grid_gt_Lt CM_Grid_le_LtE RM_Grid_ge_LtE S_law_same O_Grid_and ON_Grid_and S_law_narrow L_Grid S_law_wide S_law_joined cdv A outer s H E hr)
    (sss_cons (t_law_pair_right_7 B S_Grid_init S_law_is_finer CM_Grid_eq_Eq RM_Grid_eq_Eq CM_Grid_gt_Gt RM_Grid_lt_Gt CM_Grid_ge_GtE RM_Grid_le_GtE CM_Grid_lt_Lt RM_Grid_gt_Lt CM_Grid_le_LtE RM_Grid_ge_LtE S_law_same O_Grid_and ON_Grid_and S_law_narrow L_Grid S_law_wide S_law_joined cdv A outer s H E hr)
    (sss_cons (t_law_pair_right_8 B S_Grid_init S_law_is_finer CM_Grid_eq_Eq RM_Grid_eq_Eq CM_Grid_gt_Gt RM_Grid_lt_Gt CM_Grid_ge_GtE RM_Grid_le_GtE CM_Grid_lt_Lt RM_Grid_gt_Lt CM_Grid_le_LtE RM_Grid_ge_LtE S_law_same O_Grid_and ON_Grid_and S_law_narrow L_Grid S_law_wide S_law_joined cdv A outer s H E hr)
    (sss_cons (t_law_pair_right_13 B S_Grid_init S_law_is_finer CM_Grid_eq_Eq RM_Grid_eq_Eq CM_Grid_gt_Gt RM_Grid_lt_Gt CM_Grid_ge_GtE RM_Grid_le_GtE CM_Grid_lt_Lt RM_Grid_gt_Lt CM_Grid_le_LtE RM_Grid_ge_LtE S_law_same O_Grid_and ON_Grid_and S_law_narrow L_Grid S_law_wide S_law_joined cdv A outer s H E hr)
    (sss_one (t_law_pair_right_14 B S_Grid_init S_law_is_finer CM_Grid_eq_Eq RM_Grid_eq_Eq CM_Grid_gt_Gt RM_Grid_lt_Gt CM_Grid_ge_GtE RM_Grid_le_GtE CM_Grid_lt_Lt RM_Grid_gt_Lt CM_Grid_le_LtE RM_Grid_ge_LtE S_law_same O_Grid_and ON_Grid_and S_law_narrow L_Grid S_law_wide S_law_joined cdv A outer s H E hr))))))))))
theorem fs_law_pair_right {f : Addr} {fd : FuncData} (F : Fun K "_law_pair_right" "_law_pair_right" s_law_pair_right f fd) (hm : mg "_law_pair_right" = some (.ref f)) (B : Bt mg) (S_Grid_init : FI P w K mg base cl 1 0 "Grid" 3 m_Grid_init) (S_law_is_finer : FS P w K mg base cl 1 "_law_is_finer" 2 m_law_is_finer) (CM_Grid_eq_Eq : FCm P w K mg base cl 2 0 1 .Eq m_Grid_eq) (RM_Grid_eq_Eq : FRm P w K mg base cl 2 0 .Eq m_Grid_eq) (CM_Grid_gt_Gt : FCm P w K mg base cl 2 0 1 .Gt m_Grid_gt) (RM_Grid_lt_Gt : FRm P w K mg base cl 3 0 .Gt m_Grid_lt) (CM_Grid_ge_GtE : FCm P w K mg base cl 1 0 1 .GtE m_Grid_ge) (RM_Grid_le_GtE : FRm P w K mg base cl 3 0 .GtE m_Grid_le) (CM_Grid_lt_Lt : FCm P w K mg base cl 3 0 1 .Lt m_Grid_lt) (RM_Grid_gt_Lt : FRm P w K mg base cl 2 0 .Lt m_Grid_gt) (CM_Grid_le_LtE : FCm P w K mg base cl 3 0 1 .LtE m_Grid_le) (RM_Grid_ge_LtE : FRm P w K mg base cl 1 0 .LtE m_Grid_ge) (S_law_same : FS P w K mg base cl 6 "_law_same" 2 (m_law_same 5)) (O_Grid_and : FO P w K mg base cl 3 0 .BitAnd m_Grid_and) (ON_Grid_and : FON P w K mg base cl 3 0 .BitAnd m_Grid_and) (S_law_narrow : FS P w K mg base cl 2 "_law_narrow" 2 m_law_narrow) (L_Grid : ClS K cl 0 ["start", "width"]) (S_law_wide : FS P w K mg base cl 2 "_law_wide" 2 m_law_wide) (S_law_joined : FS P w K mg base cl 4 "_law_joined" 2 m_law_joined) : FS P w K mg base cl 7 "_law_pair_right" 2 m_law_pair_right :=
  ⟨⟨f, fd, ["_law_mine", "_law_its"], ok_law_pair_right F B S_Grid_init S_law_is_finer CM_Grid_eq_Eq RM_Grid_eq_Eq CM_Grid_gt_Gt RM_Grid_lt_Gt CM_Grid_ge_GtE RM_Grid_le_GtE CM_Grid_lt_Lt RM_Grid_gt_Lt CM_Grid_le_LtE RM_Grid_ge_LtE S_law_same O_Grid_and ON_Grid_and S_law_narrow L_Grid S_law_wide S_law_joined, hm, F.kp, F.binds (ps := ["_law_mine", "_law_its"]) fun _ _ _ _ _ _ us hl => match us, hl with | [_, _], _ => rfl, rfl⟩, fun rs μ z h => mDef_ar rs μ z h⟩
end
end NS
set_option Elab.async false
set_option linter.all false
set_option maxRecDepth 100000
set_option maxHeartbeats 4000000
namespace NS
open PySem PySem.Spec PyProof.Rows L2 DL
section
variable {P : Program} {w : World} {K : PySem.W.Frag} {mg : Str → Option Value} {base : Heap} {cl : Nat → Addr}
theorem t_law_right_0 {f : Addr} (B : Bt mg) (S_law_hand_right : FS P w K mg base cl 7 "_law_hand_right" 0 m_law_hand_right) (S_law_take : FS P w K mg base cl 1 "_law_take" 2 m_law_take) (S_law_of : FS P w K mg base cl 2 "_law_of" 2 m_law_of) (S_law_pair_right : FS P w K mg base cl 7 "_law_pair_right" 2 m_law_pair_right) (cdv : Value) (A : Around) (outer : List Env) (s : Shared) (H : Hp) (E : XK) (hr : Room 7 (A.deeper (envOfC "_law_right" (defScope s_law_right) s.heap.objs.size f cdv))) :
    SS (cxOf CX0 P w K mg base ["_law_box_here", "_law_turn", "_law_mine", "_law_its", "_law_low", "_law_far"] "_law_right" (defScope s_law_right) f cdv A outer s H E).nox cl ((sub1 ((defBody s_law_right).getD 0 (.Pass ⟨0, 0, 0, 0⟩))).getD 0 (.Pass ⟨0, 0, 0, 0⟩)) m_law_right_0 := by
  exact (ss_ret se_bl)
theorem t_law_right_1 {f : Addr} (B : Bt mg) (S_law_hand_right : FS P w K mg base cl 7 "_law_hand_right" 0 m_law_hand_right) (S_law_take : FS P w K mg base cl 1 "_law_take" 2 m_law_take) (S_law_of : FS P w K mg base cl 2 "_law_of" 2 m_law_of) (S_law_pair_right : FS P w K mg base cl 7 "_law_pair_right" 2 m_law_pair_right) (cdv : Value) (A : Around) (outer : List Env) (s : Shared) (H : Hp) (E : XK) (hr : Room 7 (A.deeper (envOfC "_law_right" (defScope s_law_right) s.heap.objs.size f cdv))) :
    SS (cxOf CX0 P w K mg base ["_law_box_here", "_law_turn", "_law_mine", "_law_its", "_law_low", "_law_far"] "_law_right" (defScope s_law_right) f cdv A outer s H E).nox cl ((defBody s_law_right).getD 0 (.Pass ⟨0, 0, 0, 0⟩)) m_law_right_1 := by
  exact (ss_if (st_not (st_val (se_call0 S_law_hand_right.x hr (by decide)))) (sss_one (t_law_right_0 B S_law_hand_right S_law_take S_law_of S_law_pair_right cdv A outer s H E hr)) sss_nil)
theorem t_law_right_2 {f : Addr} (B : Bt mg) (S_law_hand_right : FS P w K mg base cl 7 "_law_hand_right" 0 m_law_hand_right) (S_law_take : FS P w K mg base cl 1 "_law_take" 2 m_law_take) (S_law_of : FS P w K mg base cl 2 "_law_of" 2 m_law_of) (S_law_pair_right : FS P w K mg base cl 7 "_law_pair_right" 2 m_law_pair_right) (cdv : Value) (A : Around) (outer : List Env) (s : Shared) (H : Hp) (E : XK) (hr : Room 7 (A.deeper (envOfC "_law_right" (defScope s_law_right) s.heap.objs.size f cdv))) :
    SS (cxOf CX0 P w K mg base ["_law_box_here", "_law_turn", "_law_mine", "_law_its", "_law_low", "_law_far"] "_law_right" (defScope s_law_right) f cdv A outer s H E).nox cl ((sub1 ((defBody s_law_right).getD 1 (.Pass ⟨0, 0, 0, 0⟩))).getD 0 (.Pass ⟨0, 0, 0, 0⟩)) m_law_right_2 := by
  exact (ss_set (i := 2) sc_law_right.nd (se_add se_int (se_call S_law_take.x hr (by decide) (sa_cons (se_var (i := 0)) (sa_cons se_int sa_nil)))))
theorem t_law_right_3 {f : Addr} (B : Bt mg) (S_law_hand_right : FS P w K mg base cl 7 "_law_hand_right" 0 m_law_hand_right) (S_law_take : FS P w K mg base cl 1 "_law_take" 2 m_law_take) (S_law_of : FS P w K mg base cl 2 "_law_of" 2 m_law_of) (S_law_pair_right : FS P w K mg base cl 7 "_law_pair_right" 2 m_law_pair_right) (cdv : Value) (A : Around) (outer : List Env) (s : Shared) (H : Hp) (E : XK) (hr : Room 7 (A.deeper (envOfC "_law_right" (defScope s_law_right) s.heap.objs.size f cdv))) :
    SS (cxOf CX0 P w K mg base ["_law_box_here", "_law_turn", "_law_mine", "_law_its", "_law_low", "_law_far"] "_law_right" (defScope s_law_right) f cdv A outer s H E).nox cl ((sub1 ((defBody s_law_right).getD 1 (.Pass ⟨0, 0, 0, 0⟩))).getD 1 (.Pass ⟨0, 0, 0, 0⟩)) m_law_right_3 := by
  exact (ss_set (i := 3) sc_law_right.nd (se_call S_law_of.x hr (by decide) (sa_cons (se_var (i := 0)) (sa_cons (se_lst (sa_cons (se_add se_int (se_call S_law_take.x hr (by decide) (sa_cons (se_var (i := 0)) (sa_cons se_int sa_nil)))) (sa_cons (se_var (i := 2)) (sa_cons (se_max B.max (sa_cons se_int (sa_cons (se_div (se_var (i := 2)) se_int) sa_nil))) (sa_cons (se_min B.min (sa_cons se_int (sa_cons (se_mul se_int (se_var (i := 2))) sa_nil))) sa_nil))))) sa_nil))))
theorem t_law_right_4 {f : Addr} (B : Bt mg) (S_law_hand_right : FS P w K mg base cl 7 "_law_hand_right" 0 m_law_hand_right) (S_law_take : FS P w K mg base cl 1 "_law_take" 2 m_law_take) (S_law_of : FS P w K mg base cl 2 "_law_of" 2 m_law_of) (S_law_pair_right : FS P w K mg base cl 7 "_law_pair_right" 2 m_law_pair_right) (cdv : Value) (A : Around) (outer : List Env) (s : Shared) (H : Hp) (E : XK) (hr : Room 7 (A.deeper (envOfC "_law_right" (defScope s_law_right) s.heap.objs.size f cdv))) :
    SS (cxOf CX0 P w K mg base ["_law_box_here", "_law_turn", "_law_mine", "_law_its", "_law_low", "_law_far"] "_law_right" (defScope s_law_right) f cdv A outer s H E).nox cl ((sub1 ((defBody s_law_right).getD 1 (.Pass ⟨0, 0, 0, 0⟩))).getD 2 (.Pass ⟨0, 0, 0, 0⟩)) m_law_right_4 := by
  exact (ss_par (ci := false) (cj := false) (i := 4) (j := 5) sc_law_right.nd (se_call S_law_take.x hr (by decide) (sa_cons (se_var (i := 0)) (sa_cons (se_var (i := 2)) sa_nil))) (se_call S_law_take.x hr (by decide) (sa_cons (se_var (i := 0)) (sa_cons (se_var (i := 3)) sa_nil))))
theorem t_law_right_5 {f : Addr} (B : Bt mg) (S_law_hand_right : FS P w K mg base cl 7 "_law_hand_right" 0 m_law_hand_right) (S_law_take : FS P w K mg base cl 1 "_law_take" 2 m_law_take) (S_law_of : FS P w K mg base cl 2 "_law_of" 2 m_law_of) (S_law_pair_right : FS P w K mg base cl 7 "_law_pair_right" 2 m_law_pair_right) (cdv : Value) (A : Around) (outer : List Env) (s : Shared) (H : Hp) (E : XK) (hr : Room 7 (A.deeper (envOfC "_law_right" (defScope s_law_right) s.heap.objs.size f cdv))) :
    SS (cxOf CX0 P w K mg base ["_law_box_here", "_law_turn", "_law_mine", "_law_its", "_law_low", "_law_far"] "_law_right" (defScope s_law_right) f cdv A outer s H E).nox cl ((sub1 ((defBody s_law_right).getD 1 (.Pass ⟨0, 0, 0, 0⟩))).getD 3 (.Pass ⟨0, 0, 0, 0⟩)) m_law_right_5 := by
  exact (ss_set (i := 5) sc_law_right.nd (se_call S_law_of.x hr (by decide) (sa_cons (se_var (i := 0)) (sa_cons (se_lst (sa_cons (se_var (i := 5)) (sa_cons (se_mod (se_int1 B.int (sa_cons (se_var (i := 4)) sa_nil)) (se_var (i := 3))) sa_nil))) sa_nil))))
theorem t_law_right_6 {f : Addr} (B : Bt mg) (S_law_hand_right : FS P w K mg base cl 7 "_law_hand_right" 0 m_law_hand_right) (S_law_take : FS P w K mg base cl 1 "_law_take" 2 m_law_take) (S_law_of : FS P w K mg base cl 2 "_law_of" 2 m_law_of) (S_law_pair_right : FS P w K mg base cl 7 "_law_pair_right" 2 m_law_pair_right) (cdv : Value) (A : Around) (outer : List Env) (s : Shared) (H : Hp) (E : XK) (hr : Room 7 (A.deeper (envOfC "_law_right" (defScope s_law_right) s.heap.objs.size f cdv))) :
    SS (cxOf CX0 P w K mg base ["_law_box_here", "_law_turn", "_law_mine", "_law_its", "_law_low", "_law_far"] "_law_right" (defScope s_law_right) f cdv A outer s H E).nox cl ((sub1 ((sub1 ((defBody s_law_right).getD 1 (.Pass ⟨0, 0, 0, 0⟩))).getD 4 (.Pass ⟨0, 0, 0, 0⟩))).getD 0 (.Pass ⟨0, 0, 0, 0⟩)) m_law_right_6 := by
  exact (ss_ret se_bl)
theorem t_law_right_7 {f : Addr} (B : Bt mg) (S_law_hand_right : FS P w K mg base cl 7 "_law_hand_right" 0 m_law_hand_right) (S_law_take : FS P w K mg base cl 1 "_law_take" 2 m_law_take) (S_law_of : FS P w K mg base cl 2 "_law_of" 2 m_law_of) (S_law_pair_right : FS P w K mg base cl 7 "_law_pair_right" 2 m_law_pair_right) (cdv : Value) (A : Around) (outer : List Env) (s : Shared) (H : Hp) (E : XK) (hr : Room 7 (A.deeper (envOfC "_law_right" (defScope s_law_right) s.heap.objs.size f cdv))) :
    SS (cxOf CX0 P w K mg base ["_law_box_here", "_law_turn", "_law_mine", "_law_its", "_law_low", "_law_far"] "_law_right" (defScope s_law_right) f cdv A outer s H E).nox cl ((sub1 ((defBody s_law_right).getD 1 (.Pass ⟨0, 0, 0, 0⟩))).getD 4 (.Pass ⟨0, 0, 0, 0⟩)) m_law_right_7 := by
  exact (ss_if (st_not (st_val (se_call S_law_pair_right.x hr (by decide) (sa_cons (se_tup (sa_cons (se_var (i := 2)) (sa_cons (se_var (i := 4)) sa_nil))) (sa_cons (se_tup (sa_cons (se_var (i := 3)) (sa_cons (se_var (i := 5)) sa_nil))) sa_nil))))) (sss_one (t_law_right_6 B S_law_hand_right S_law_take S_law_of S_law_pair_right cdv A outer s H E hr)) sss_nil)
theorem t_law_right_9 {f : Addr} (B : Bt mg) (S_law_hand_right : FS P w K mg base cl 7 "_law_hand_right" 0 m_law_hand_right) (S_law_take : FS P w K mg base cl 1 "_law_take" 2 m_law_take) (S_law_of : FS P w K mg base cl 2 "_law_of" 2 m_law_of) (S_law_pair_right : FS P w K mg base cl 7 "_law_pair_right" 2 m_law_pair_right) (cdv : Value) (A : Around) (outer : List Env) (s : Shared) (H : Hp) (E : XK) (hr : Room 7 (A.deeper (envOfC "_law_right" (defScope s_law_right) s.heap.objs.size f cdv))) :
    SS (cxOf CX0 P w K mg base ["_law_box_here", "_law_turn", "_law_mine", "_law_its", "_law_low", "_law_far"] "_law_right" (defScope s_law_right) f cdv A outer s H E).nox cl ((defBody s_law_right).getD 1 (.Pass ⟨0, 0, 0, 0⟩)) m_law_right_9 := by
  exact (ss_for (si_range1 B.range (sa_cons se_int sa_nil)) (sg_name (i := 1) (vs := [1]) sc_law_right.nd) (sss_cons (t_law_right_2 B S_law_hand_right S_law_take S_law_of S_law_pair_right cdv A outer s H E hr)
    (sss_cons (t_law_right_3 B S_law_hand_right S_law_take S_law_of S_law_pair_right cdv A outer s H E hr)
    (sss_cons (t_law_right_4 B S_law_hand_right S_law_take S_law_of S_law_pair_right cdv A outer s H E hr)
    (sss_cons (t_law_right_5 B S_law_hand_right S_law_take S_law_of S_law_pair_right cdv A outer s H E hr)
    (sss_one (t_law_right_7 B S_law_hand_right S_law_take S_law_of S_law_pair_right cdv A outer s H E hr)))))))
theorem t_law_right_10 {f : Addr} (B : Bt mg) (S_law_hand_right : FS P w K mg base cl 7 "_law_hand_right" 0 m_law_hand_right) (S_law_take : FS P w K mg base cl 1 "_law_take" 2 m_law_take) (S_law_of : FS P w K mg base cl 2 "_law_of" 2 m_law_of) (S_law_pair_right : FS P w K mg base cl 7 "_law_pair_right" 2 m_law_pair_right) (cdv : Value) (A : Around) (outer : List Env) (s : Shared) (H : Hp) (E : XK) (hr : Room 7 (A.deeper (envOfC "_law_right" (defScope s_law_right) s.heap.objs.size f cdv))) :
    SS (cxOf CX0 P w K mg base ["_law_box_here", "_law_turn", "_law_mine", "_law_its", "_law_low", "_law_far"] "_law_right" (defScope s_law_right) f cdv A outer s H E).nox cl ((defBody s_law_right).getD 2 (.Pass ⟨0, 0, 0, 0⟩)) m_law_right_10 := by
  exact (ss_ret se_bl)
theorem ok_law_right {f : Addr} {fd : FuncData} (F : Fun K "_law_right" "_law_right" s_law_right f fd) (B : Bt mg) (S_law_hand_right : FS P w K mg base cl 7 "_law_hand_right" 0 m_law_hand_right) (S_law_take : FS P w K mg base cl 1 "_law_take" 2 m_law_take) (S_law_of : FS P w K mg base cl 2 "_law_of" 2 m_law_of) (S_law_pair_right : FS P w K mg base cl 7 "_law_pair_right" 2 m_law_pair_right) : FnOk P w K mg base CX0 8 f fd ["_law_box_here"] (spM K cl 1 m_law_right) := by
  refine def_ok (N := ["_law_box_here", "_law_turn", "_law_mine", "_law_its", "_law_low", "_law_far"]) (n := 1) F sc_law_right rfl (fun cdv A outer s H E hr => ?_)
  exact (sss_cons (t_law_right_1 B S_law_hand_right S_law_take S_law_of S_law_pair_right cdv A outer s H E hr)
    (sss_cons (t_law_right_9 B S_law_hand_right S_law_take S_law_of S_law_pair_right cdv A outer s H E hr)
    (sss_one (t_law_right_10 B S_law_hand_right S_law_take S_law_of S_law_pair_right cdv A outer s H E hr))))
theorem fs_law_right {f : Addr} {fd : FuncData} (F : Fun K "_law_right" "_law_right" s_law_right f fd) (hm : mg "_law_right" = some (.ref f)) (B : Bt mg) (S_law_hand_right : FS P w K mg base cl 7 "_law_hand_right" 0 m_law_hand_right) (S_law_take : FS P w K mg base cl 1 "_law_take" 2 m_law_take) (S_law_of : FS P w K mg base cl 2 "_law_of" 2 m_law_of) (S_law_pair_right : FS P w K mg base cl 7 "_law_pair_right" 2 m_law_pair_right) : FS P w K mg base cl 8 "_law_right" 1 m_law_right :=
  ⟨⟨f, fd, ["_law_box_here"], ok_law_right F B S_law_hand_right S_law_take S_law_of S_law_pair_right, hm, F.kp, F.binds (ps := ["_law_box_here"]) fun _ _ _ _ _ _ us hl => match us, hl with | [_], _ => rfl, rfl⟩, fun rs μ z h => mDef_ar rs μ z h⟩
end
end NS
set_option Elab.async false
set_option linter.all false
set_option maxRecDepth 100000
set_option maxHeartbeats 4000000
namespace NS
open PySem PySem.Spec PyProof.Rows L2 DL
section
variable {P : Program} {w : World} {K : PySem.W.Frag} {mg : Str → Option Value} {base : Heap} {cl : Nat → Addr}
theorem t_law_box_0 {f : Addr} (B : Bt mg) (cdv : Value) (A : Around) (outer : List Env) (s : Shared) (H : Hp) (E : XK) (hr : Room 0 (A.deeper (envOfC "_law_box" (defScope s_law_box) s.heap.objs.size f cdv))) :
    SS (cxOf CX0 P w K mg base ["_law_script", "_law_k", "_law_cell"] "_law_box" (defScope s_law_box) f cdv A outer s H E).nox cl ((defBody s_law_box).getD 0 (.Pass ⟨0, 0, 0, 0⟩)) m_law_box_0 := by
  exact (ss_set (i := 2) sc_law_box.nd (se_if (st_lt hr.units (se_var (i := 1)) (se_len B.len (sa_cons (se_var (i := 0)) sa_nil))) (se_ix (se_var (i := 0)) (se_var (i := 1))) se_int))
theorem t_law_box_1 {f : Addr} (B : Bt mg) (cdv : Value) (A : Around) (outer : List Env) (s : Shared) (H : Hp) (E : XK) (hr : Room 0 (A.deeper (envOfC "_law_box" (defScope s_law_box) s.heap.objs.size f cdv))) :
    SS (cxOf CX0 P w K mg base ["_law_script", "_law_k", "_law_cell"] "_law_box" (defScope s_law_box) f cdv A outer s H E).nox cl ((defBody s_law_box).getD 1 (.Pass ⟨0, 0, 0, 0⟩)) m_law_box_1 := by
  exact (ss_ret (se_lst (sa_cons (se_mul (se_abs B.abs (sa_cons (se_var (i := 2)) sa_nil)) (se_int1 B.int (sa_cons (se_ge (se_abs B.abs (sa_cons (se_var (i := 2)) sa_nil)) (se_pow se_int se_int)) sa_nil))) (sa_cons (se_add (se_add (se_mod (se_int1 B.int (sa_cons (se_var (i := 2)) sa_nil)) se_int) (se_mul se_int (se_var (i := 1)))) se_int) (sa_cons se_int sa_nil)))))
theorem ok_law_box {f : Addr} {fd : FuncData} (F : Fun K "_law_box" "_law_box" s_law_box f fd) (B : Bt mg) : FnOk P w K mg base CX0 1 f fd ["_law_script", "_law_k"] (spM K cl 2 m_law_box) := by
  refine def_ok (N := ["_law_script", "_law_k", "_law_cell"]) (n := 2) F sc_law_box rfl (fun cdv A outer s H E hr => ?_)
  exact (sss_cons (t_law_box_0 B cdv A outer s H E hr)
    (sss_one (t_law_box_1 B cdv A outer s H E hr)))
theorem fs_law_box {f : Addr} {fd : FuncData} (F : Fun K "_law_box" "_law_box" s_law_box f fd) (hm : mg "_law_box" = some (.ref f)) (B : Bt mg) : FS P w K mg base cl 1 "_law_box" 2 m_law_box :=
  ⟨⟨f, fd, ["_law_script", "_law_k"], ok_law_box F B, hm, F.kp, F.binds (ps := ["_law_script", "_law_k"]) fun _ _ _ _ _ _ us hl => match us, hl with | [_, _], _ => rfl, rfl⟩, fun rs μ z h => mDef_ar rs μ z h⟩
end
end NS
set_option Elab.async false
set_option linter.all false
set_option maxRecDepth 100000
set_option maxHeartbeats 4000000
namespace NS
open PySem PySem.Spec PyProof.Rows L2 DL
section
variable {P : Program} {w : World} {K : PySem.W.Frag} {mg : Str → Option Value} {base : Heap} {cl : Nat → Addr}
theorem t_law_0 {f : Addr} (B : Bt mg) (S_law_cells : FS P w K mg base cl 1 "_law_cells" 2 m_law_cells) (S_law_right : FS P w K mg base cl 8 "_law_right" 1 m_law_right) (S_law_box : FS P w K mg base cl 1 "_law_box" 2 m_law_box) (cdv : Value) (A : Around) (outer : List Env) (s : Shared) (H : Hp) (E : XK) (hr : Room 8 (A.deeper (envOfC "law" (defScope s_law) s.heap.objs.size f cdv))) :
    SS (cxOf CX0 P w K mg base ["_law_script", "_law_cells_so", "_law_k_so"] "law" (defScope s_law) f cdv A outer s H E).nox cl ((defBody s_law).getD 0 (.Pass ⟨0, 0, 0, 0⟩)) m_law_0 := by
  exact (ss_set (i := 1) sc_law.nd (se_call S_law_cells.x hr (by decide) (sa_cons (se_var (i := 0)) (sa_cons se_int sa_nil))))
theorem t_law_2 {f : Addr} (B : Bt mg) (S_law_cells : FS P w K mg base cl 1 "_law_cells" 2 m_law_cells) (S_law_right : FS P w K mg base cl 8 "_law_right" 1 m_law_right) (S_law_box : FS P w K mg base cl 1 "_law_box" 2 m_law_box) (cdv : Value) (A : Around) (outer : List Env) (s : Shared) (H : Hp) (E : XK) (hr : Room 8 (A.deeper (envOfC "law" (defScope s_law) s.heap.objs.size f cdv))) :
    SS (cxOf CX0 P w K mg base ["_law_script", "_law_cells_so", "_law_k_so"] "law" (defScope s_law) f cdv A outer s H E).nox cl ((defBody s_law).getD 1 (.Pass ⟨0, 0, 0, 0⟩)) m_law_2 := by
  exact (ss_ret (se_all B.all (sa_cons (se_lc (own := [("_law_k_so", 2)]) sc_law.nd (si_range1 B.range (sa_cons (se_len B.len (sa_cons (se_var (i := 1)) sa_nil)) sa_nil)) (sem_name (by decide)) (fun _ _ _ _ _ => (sg_name (cl := cl) (vs := [2]) (i := 2) sc_law.nd).1) (fun _ _ _ _ _ => stt_nil) (fun _ _ _ _ _ => (se_call1 S_law_right hr (by decide) (se_call S_law_box.x hr (by decide) (sa_cons (se_var (i := 1)) (sa_cons (se_var (i := 2)) sa_nil))))) (blkOk_by (by kernel_rfl))) sa_nil)))
theorem ok_law {f : Addr} {fd : FuncData} (F : Fun K "law" "law" s_law f fd) (B : Bt mg) (S_law_cells : FS P w K mg base cl 1 "_law_cells" 2 m_law_cells) (S_law_right : FS P w K mg base cl 8 "_law_right" 1 m_law_right) (S_law_box : FS P w K mg base cl 1 "_law_box" 2 m_law_box) : FnOk P w K mg base CX0 9 f fd ["_law_script"] (spM K cl 1 m_law) := by
  refine def_ok (N := ["_law_script", "_law_cells_so", "_law_k_so"]) (n := 1) F sc_law rfl (fun cdv A outer s H E hr => ?_)
  exact (sss_cons (t_law_0 B S_law_cells S_law_right S_law_box cdv A outer s H E hr)
    (sss_one (t_law_2 B S_law_cells S_law_right S_law_box cdv A outer s H E hr)))
theorem fs_law {f : Addr} {fd : FuncData} (F : Fun K "law" "law" s_law f fd) (hm : mg "law" = some (.ref f)) (B : Bt mg) (S_law_cells : FS P w K mg base cl 1 "_law_cells" 2 m_law_cells) (S_law_right : FS P w K mg base cl 8 "_law_right" 1 m_law_right) (S_law_box : FS P w K mg base cl 1 "_law_box" 2 m_law_box) : FS P w K mg base cl 9 "law" 1 m_law :=
  ⟨⟨f, fd, ["_law_script"], ok_law F B S_law_cells S_law_right S_law_box, hm, F.kp, F.binds (ps := ["_law_script"]) fun _ _ _ _ _ _ us hl => match us, hl with | [_], _ => rfl, rfl⟩, fun rs μ z h => mDef_ar rs μ z h⟩
end
end NS
set_option Elab.async false
set_option linter.all false
set_option maxRecDepth 100000
set_option maxHeartbeats 4000000
namespace NS
open PySem PySem.Spec PyProof.Rows L2 DL
section
variable {P : Program} {w : World} {K : PySem.W.Frag} {mg : Str → Option Value} {base : Heap} {cl : Nat → Addr}
theorem er_NoGrid {f cc cda : Addr} {kV doc pm ct : Value} {an : Option Addr} (T : ErC K "ValueError.__new__" [.type "ValueError", .type "Exception", .type "BaseException", .type "object"] (cl 900)) (Sk : SupK P K mg f (cl 900) cc ⟨"__init__", "NoGrid.__init__", defArgs s_er_NoGrid, defBody s_er_NoGrid, defScope s_er_NoGrid, [("__class__", cc)], cda⟩ "self" (PySem.W.fnX "__init__" "NoGrid.__init__" (defArgs s_er_NoGrid) (defBody s_er_NoGrid) (defScope s_er_NoGrid) [("__class__", cc)] .none kV doc pm an (.ref cda) ct)) (hH : PySem.W.mroIn K (cl 900) (.ref (cl 900)) = some true) (hB : PySem.W.subIn K (.ref (cl 900)) (.type "ValueError") = some true) (no_0 : PySem.W.findIn K (.ref (cl 900)) "common" = some none) (iC : PySem.W.findIn K (.ref (cl 900)) "__init__" = some (some (.ref f))) (tI : PySem.W.typeIn K (.ref f) = some (.type "function")) (hm : mg "NoGrid" = some (.ref (cl 900))) : ErK P w K mg base cl 1 900 "NoGrid" 1 [("common", 0)] := by
  refine ⟨⟨_, _, _, _, f, _, ["self", "common"], eb_V, T, iC, tI, fn_super (k := 0) (N := ["self", "common", "__class__"]) (sf := "self") (p0 := _) (rest := _) eb_V T Sk (show NdefX.NScope ["self", "common", "__class__"] ["self", "common"] ["__class__"] (defScope s_er_NoGrid) from NdefX.nscope_by (by decide +kernel)) rfl rfl hH hB rfl (by decide) (by decide) (fun L => rfl) (fun L => rfl) (fun L => rfl) (fun A outer s H E σ h => ?_) (fun A outer s H E => ?_), hm, .all (fun us hl => match us, hl with | [_, _], _ => rfl), rfl⟩, by decide, by decide⟩
  · exact tx_join (by decide) (pts_cons (pt_cst (by decide)) (pts_cons (pt_arg (i := 0) (pe_var rfl (by first | exact .inl rfl | exact .inr (.inl rfl) | exact .inr (.inr rfl))) (h 0 (by decide))) pts_nil))
  · exact (.cons (ps_est eb_V T no_0 (pe_var rfl (by first | exact .inl rfl | exact .inr (.inl rfl) | exact .inr (.inr rfl))) (pe_var rfl (by first | exact .inl rfl | exact .inr (.inl rfl) | exact .inr (.inr rfl)))) .nil)
end
end NS
set_option Elab.async false
set_option linter.all false
set_option maxRecDepth 100000
set_option maxHeartbeats 1000000

namespace DL
open PySem L2
def M_box_0 : MS := (mSet 2 (mIf (mB (mOp fLt (mVar 1) (mCb fLen (mCons (mVar 0) mNil)))) (mOp fIx (mVar 0) (mVar 1)) (mC (.int 0))))
def M_box_1 : MS := (mRet (mLst (mCons (mOp fMul (mCb fAbs (mCons (mVar 2) mNil)) (mCb fInt (mCons (mOp fGeI (mCb fAbs (mCons (mVar 2) mNil)) (mOp fPow (mC (.int 10)) (mC (.int 18)))) mNil))) (mCons (mOp fAdd (mOp fAdd (mOp fMod (mCb fInt (mCons (mVar 2) mNil)) (mC (.int 2305843009213693951))) (mOp fMul (mC (.int 39373)) (mVar 1))) (mC (.int 293))) (mCons (mC (.int 0)) mNil)))))
def M_box : MF := mDef 2 3
  (mSeq M_box_0
  M_box_1)
def M_take_0 : MS := (mSet 2 (mOp fMod (mCb fInt (mCons (mOp fIx (mVar 0) (mC (.int 0))) mNil)) (mVar 1)))
def M_take_1 : MS := (mPut (mVar 0) (mC (.int 0)) (mOp fDiv (mOp fIx (mVar 0) (mC (.int 0))) (mVar 1)))
def M_take_2 : MS := (mRet (mVar 2))
def M_take_3 : MS := (mIfS (mB (mOp fGtI (mOp fIx (mVar 0) (mC (.int 0))) (mC (.int 0)))) (mSeq M_take_0
  (mSeq M_take_1
  M_take_2)) mNx)
def M_take_4 : MS := (mPut (mVar 0) (mC (.int 2)) (mOp fAdd (mOp fIx (mVar 0) (mC (.int 2))) (mC (.int 1))))
def M_take_5 : MS := (mSet 3 (mOp fMod (mCb fInt (mCons (mOp fMul (mOp fAdd (mOp fIx (mVar 0) (mC (.int 1))) (mOp fMul (mC (.int 48271)) (mOp fIx (mVar 0) (mC (.int 2))))) (mOp fAdd (mC (.int 39373)) (mOp fIx (mVar 0) (mC (.int 2))))) mNil)) (mC (.int 2147483647))))
def M_take_6 : MS := (mSet 4 (mOp fAdd (mOp fMod (mCb fInt (mCons (mVar 3) mNil)) (mC (.int 40009))) (mC (.int 7))))
def M_take_7 : MS := (mSet 5 (mOp fMod (mCb fInt (mCons (mOp fMul (mOp fAdd (mOp fAdd (mVar 3) (mOp fIx (mVar 0) (mC (.int 2)))) (mOp fDiv (mOp fIx (mVar 0) (mC (.int 1))) (mC (.int 1000003)))) (mVar 4)) mNil)) (mC (.int 2147483629))))
def M_take_8 : MS := (mRet (mOp fMod (mCb fInt (mCons (mOp fDiv (mOp fMod (mCb fInt (mCons (mOp fAdd (mOp fMul (mVar 5) (mC (.int 48271))) (mVar 3)) mNil)) (mC (.int 2147483587))) (mC (.int 64))) mNil)) (mVar 1)))
def M_take : MF := mDef 2 6
  (mSeq M_take_3
  (mSeq M_take_4
  (mSeq M_take_5
  (mSeq M_take_6
  (mSeq M_take_7
  M_take_8)))))
def M_cells_0 : MS := (mSetC 2 (mOr (mCb fList (mCons (mSl (mVar 0) mNo (mSo (mVar 1))) mNil)) (mLst (mCons (mC (.int 0)) mNil))))
def M_cells_1 : MS := (mSet 5 (mOp fMod (mCb fInt (mCons (mVar 3) mNil)) (mVar 1)))
def M_cells_2 : MS := (mPut (mVar 2) (mVar 5) (mOp fAdd (mOp fIx (mVar 2) (mVar 5)) (mOp fMul (mVar 4) (mOp fAdd (mVar 3) (mC (.int 2))))))
def M_cells_b3 : MS := (mSeq M_cells_1
  M_cells_2)
def M_cells_4 : MS := (mFor (mItE (mCons (mSl (mVar 0) (mSo (mVar 1)) (mSo (mC (.int 63)))) mNil)) (tgPair 3 4) M_cells_b3)
def M_cells_5 : MS := (mRet (mVar 2))
def M_cells : MF := mDef 2 6
  (mSeq M_cells_0
  (mSeq M_cells_4
  M_cells_5))
def M_of_0 : MS := (mRet (mOp fIx (mVar 1) (mCall (callX M_take) (mCons (mVar 0) (mCons (mCb fLen (mCons (mVar 1) mNil)) mNil)))))
def M_of : MF := mDef 2 2
  M_of_0
def M_same_0 (r : MF) : MS := (mRet (mC (.bl false)))
def M_same_1 (r : MF) : MS := (mIfS (mtOr (mB (mOp (fEq true) (mIsi "list" (mVar 0)) (mIsi "list" (mVar 1)))) (mB (mOp (fEq true) (mIsi "tuple" (mVar 0)) (mIsi "tuple" (mVar 1))))) (M_same_0 r) mNx)
def M_same_e2 (r : MF) : ME := (mCall (callX r) (mCons (mVar 2) (mCons (mVar 3) mNil)))
def M_same_3 (r : MF) : MS := (mRet (mAnd (mOp (fEq false) (mCb fLen (mCons (mVar 0) mNil)) (mCb fLen (mCons (mVar 1) mNil))) (mCb fAll (mCons (mLc (mItZ (mCons (mVar 0) (mCons (mVar 1) mNil))) (tgPair 2 3) mYes (M_same_e2 r) [2, 3]) mNil))))
def M_same_4 (r : MF) : MS := (mIfS (mB (mIsi2 "list" "tuple" (mVar 1))) (mSeq (M_same_1 r)
  (M_same_3 r)) mNx)
def M_same_5 (r : MF) : MS := (mRet (mAnd (mOp (fEq false) (mVar 0) (mVar 1)) (mAnd (mOp (fEq false) (mIsi "bool" (mVar 0)) (mIsi "bool" (mVar 1))) (mOp (fEq false) (mOp (fIsN false) (mVar 0) (mC .non)) (mOp (fIsN false) (mVar 1) (mC .non))))))
def M_same_6 (r : MF) : MS := (mIfS (mtOr (mB (mOp (fIsN false) (mVar 1) (mC .non))) (mB (mIsi2 "bool" "str" (mVar 1)))) (M_same_5 r) mNx)
def M_same_7 (r : MF) : MS := (mRet (mAnd (mIsi "int" (mVar 0)) (mAnd (mNot (mIsi "bool" (mVar 0))) (mOp (fEq false) (mVar 0) (mVar 1)))))
def M_same : Nat → MF
  | 0 => fun _ _ => none
  | j + 1 => mDef 2 4 (mSeq (M_same_4 (M_same j))
      (mSeq (M_same_6 (M_same j))
      (M_same_7 (M_same j))))
def M_pick_0 : MS := (mPar true true 3 4 (mCb fList (mCons (mVar 1) mNil)) (mLst mNil))
def M_pick_1 : MS := (mDrop (mBm fAppend (mVar 4) (mCons (mBm fPopAt (mVar 3) (mCons (mCall (callX M_take) (mCons (mVar 0) (mCons (mCb fLen (mCons (mVar 3) mNil)) mNil))) mNil)) mNil)))
def M_pick_2 : MS := (mFor (mItR1 (mCons (mCb fMin (mCons (mCb fInt (mCons (mVar 2) mNil)) (mCons (mCb fLen (mCons (mVar 3) mNil)) mNil))) mNil)) (tgName 5) M_pick_1)
def M_pick_3 : MS := (mRet (mVar 4))
def M_pick : MF := mDef 3 6
  (mSeq M_pick_0
  (mSeq M_pick_2
  M_pick_3))
def M_ascending_0 : MS := (mSetC 1 (mLst mNil))
def M_ascending_1 : MS := (mSet 3 (mCb fLen (mCons (mVar 1) mNil)))
def M_ascending_2 : MS := (mSet 3 (mOp fSub (mVar 3) (mC (.int 1))))
def M_ascending_c3 : MT := (mtAnd (mB (mOp fGtI (mVar 3) (mC (.int 0)))) (mB (mOp fLt (mVar 2) (mOp fIx (mVar 1) (mOp fSub (mVar 3) (mC (.int 1)))))))
def M_ascending_4 : MS := (wh M_ascending_c3 M_ascending_2 1000)
def M_ascending_5 : MS := (mDrop (mBm fInsert (mVar 1) (mCons (mVar 3) (mCons (mVar 2) mNil))))
def M_ascending_b6 : MS := (mSeq M_ascending_1
  (mSeq M_ascending_4
  M_ascending_5))
def M_ascending_7 : MS := (mFor (mIt (mVar 0)) (tgName 2) M_ascending_b6)
def M_ascending_8 : MS := (mRet (mVar 1))
def M_ascending : MF := mDef 1 4
  (mSeq M_ascending_0
  (mSeq M_ascending_7
  M_ascending_8))
def M_subsets_0 : MS := (mSet 1 (mLst (mCons (mTup mNil) mNil)))
def M_subsets_e1 : ME := (mOp fAdd (mVar 3) (mTup (mCons (mVar 2) mNil)))
def M_subsets_2 : MS := (mSet 1 (mOp fAdd (mVar 1) (mLc (mIt (mVar 1)) (tgName 3) mYes M_subsets_e1 [3])))
def M_subsets_3 : MS := (mFor (mIt (mVar 0)) (tgName 2) M_subsets_2)
def M_subsets_4 : MS := (mRet (mVar 1))
def M_subsets : MF := mDef 1 4
  (mSeq M_subsets_0
  (mSeq M_subsets_3
  M_subsets_4))

def Bx (c : Int) (b : List D) : Prop := ∃ x y z : Int, b = [.int x, .int y, .int z] ∧ 0 ≤ z ∧ z ≤ c ∧ 0 ≤ y ∧ y < 4611686018427387904
theorem cMul_l {i j : Int} (h1 : -18446744073709551616 < i) (h2 : i < 18446744073709551616) : cMul i j = true := by
  unfold cMul
  rw [Bool.or_eq_true_iff]
  exact .inl (decide_eq_true ⟨h1, h2⟩)
theorem cMul_r {i j : Int} (h1 : -18446744073709551616 < j) (h2 : j < 18446744073709551616) : cMul i j = true := by
  unfold cMul
  rw [Bool.or_eq_true_iff]
  exact .inr (decide_eq_true ⟨h1, h2⟩)
theorem take_ok {b : List D} {c n : Int} (hb : Bx c b) (hc : c < 1099511627776) (h0 : 0 < n) (h1 : n < 1073741824) : ∃ (r : Int) (b' : List D), 0 ≤ r ∧ r < n ∧ Bx (c + 1) b' ∧ M_take [.cel 0, .dat (.int n)] [.l b] = some (.dat (.int r), [.l b']) := by
  obtain ⟨x, y, z, rfl, hz, hz2, hy, hy2⟩ := hb
  by_cases hx : 0 < x
  · refine ⟨x % n, [.int (x / n), .int y, .int z], Int.emod_nonneg _ (by omega), Int.emod_lt_of_pos _ h0, ⟨_, _, _, rfl, hz, by omega, hy, hy2⟩, ?_⟩
    simp [M_take, M_take_0, M_take_1, M_take_2, M_take_3, M_take_4, M_take_5, M_take_6, M_take_7, M_take_8, atI, ixN, hx, h0, h1]
  · have q1 : cMul 48271 (z + 1) = true := cMul_l (by omega) (by omega)
    have q2 : cMul (y + 48271 * (z + 1)) (39373 + (z + 1)) = true := cMul_r (by omega) (by omega)
    have q3 : ∀ i k : Int, cMul i (k % 40009 + 7) = true := fun i k => cMul_r (by omega) (by omega)
    have q4 : ∀ k : Int, cMul (k % 2147483629) 48271 = true := fun k => cMul_r (by omega) (by omega)
    have key : ∃ v : Int, M_take [.cel 0, .dat (.int n)] [.l [.int x, .int y, .int z]] = some (.dat (.int (v % n)), [.l [.int x, .int y, .int (z + 1)]]) := by
      generalize ho : (y + 48271 * (z + 1)) * (39373 + (z + 1)) % 2147483647 = o
      generalize ht : (o + (z + 1) + y / 1000003) * (o % 40009 + 7) % 2147483629 = t
      have q4' : cMul t 48271 = true := by
        rw [← ht]
        exact q4 _
      exact ⟨(t * 48271 + o) % 2147483587 / 64, by simp [M_take, M_take_0, M_take_1, M_take_2, M_take_3, M_take_4, M_take_5, M_take_6, M_take_7, M_take_8, atI, ixN, hx, h0, h1, q1, q2, q3, q4', ho, ht]⟩
    obtain ⟨v, key⟩ := key
    exact ⟨v % n, _, Int.emod_nonneg _ (by omega), Int.emod_lt_of_pos _ h0, ⟨x, y, z + 1, rfl, by omega, by omega, hy, hy2⟩, key⟩
theorem of_ok {b xs : List D} {c : Int} (hb : Bx c b) (hc : c < 1099511627776) (h0 : xs ≠ []) (h1 : xs.length ≤ 100000) : ∃ (d : D) (b' : List D), d ∈ xs ∧ Bx (c + 1) b' ∧ M_of [.cel 0, .dat (.lst xs)] [.l b] = some (.dat d, [.l b']) := by
  have hp : 0 < xs.length := List.length_pos_iff.mpr h0
  obtain ⟨r, b', q1, q2, q3, q4⟩ := take_ok hb hc (n := (xs.length : Int)) (by omega) (by omega)
  have hr : r.toNat < xs.length := by omega
  refine ⟨xs[r.toNat], b', List.getElem_mem hr, q3, ?_⟩
  simp [M_of, M_of_0, q4, atI, ixN, q1, q2, hr]
theorem box_ok {ns : List Int} {k : Nat} (hk : k ≤ 1000) : ∃ b, Bx 0 b ∧ M_box [.dat (.lst (ns.map D.int)), .dat (.int k)] [] = some (.fr b, []) := by
  have q1 : ∀ v : Int, cMul v (if 1000000000000000000 ≤ v then 1 else 0) = true := fun v => cMul_r (by split <;> omega) (by split <;> omega)
  have q2 : cMul 39373 (k : Int) = true := cMul_l (by omega) (by omega)
  by_cases h : k < ns.length
  · refine ⟨[.int ((if ns[k] < 0 then -ns[k] else ns[k]) * if (1000000000000000000 : Int) ≤ (if ns[k] < 0 then -ns[k] else ns[k]) then 1 else 0), .int (ns[k] % 2305843009213693951 + 39373 * (k : Int) + 293), .int 0], ⟨_, _, _, rfl, by omega, by omega, by omega, by omega⟩, ?_⟩
    simp [M_box, M_box_0, M_box_1, atI, ixN, h, q1, q2]
  · refine ⟨[.int 0, .int (0 % 2305843009213693951 + 39373 * (k : Int) + 293), .int 0], ⟨_, _, _, rfl, by omega, by omega, by omega, by omega⟩, ?_⟩
    have q3 : cMul 0 0 = true := by decide
    simp [M_box, M_box_0, M_box_1, atI, ixN, h, q1, q2, q3]

def cutI (xs : List Int) (lo hi : Option Int) : List Int := (xs.drop (HT.sIx xs.length 0 lo)).take (HT.sIx xs.length xs.length hi - HT.sIx xs.length 0 lo)
theorem cut_ints (ns : List Int) (lo hi : Option Int) : cutD (ns.map D.int) lo hi = (cutI ns lo hi).map D.int := by
  unfold cutD cutI
  rw [List.length_map, List.map_take, List.map_drop]
theorem ixN_nat {n i : Nat} (h : i < n) : ixN n (i : Int) = some i := by
  unfold ixN
  rw [if_pos (by omega), if_pos (by omega)]
  simp
theorem atI_nat' {β : Type} {xs : List β} {i : Nat} (h : i < xs.length) : atI xs (i : Int) = some xs[i] := by
  unfold atI
  rw [ixN_nat h]
  exact List.getElem?_eq_getElem h
theorem atI_int {rows : List Int} {i : Nat} (h : i < rows.length) : atI (rows.map D.int) (i : Int) = some (.int rows[i]) := by
  rw [atI_nat' (by rw [List.length_map]; exact h), List.getElem_map]
theorem loop_nil {t : TGT} {mb : MS} {δ : Sl} {μ : Mu} : loop yes t mb [] δ μ = some (.nx δ μ) := rfl
theorem loop_cons {t : TGT} {mb : MS} {x : D} {xs : List D} {δ δ1 δ2 : Sl} {μ μ2 : Mu} (h1 : t x δ = some δ1) (h2 : mb δ1 μ = some (.nx δ2 μ2)) : loop yes t mb (x :: xs) δ μ = loop yes t mb xs δ2 μ2 := by
  simp [loop, h1, h2]
theorem cells_loop {most : Nat} (hm : 0 < most) (sc : R) : ∀ (tail : List Int) (j : Nat) (rows : List Int) (a b c : R), j + tail.length ≤ 1000 → rows.length = most →
    ∃ (rows' : List Int) (a' b' c' : R), rows'.length = most ∧ loop yes (tgPair 3 4) M_cells_b3 (enumD j (tail.map D.int)) [sc, .dat (.int most), .cel 0, a, b, c] [rows.map D.int] = some (.nx [sc, .dat (.int most), .cel 0, a', b', c'] [rows'.map D.int])
  | [], j, rows, a, b, c, _, hr => ⟨rows, a, b, c, hr, loop_nil⟩
  | v :: tail, j, rows, a, b, c, hj, hr => by
    have hj' : j + 1 + tail.length ≤ 1000 := by
      rw [List.length_cons] at hj
      omega
    have hat : j % most < rows.length := by rw [hr]; exact Nat.mod_lt _ hm
    have e1 : ((j : Int) % (most : Int)) = ((j % most : Nat) : Int) := (Int.natCast_emod j most).symm
    have q1 : cMul v ((j : Int) + 2) = true := cMul_r (by omega) (by omega)
    obtain ⟨rows', a', b', c', h1, h2⟩ := cells_loop hm sc tail (j + 1) (rows.set (j % most) (rows[j % most] + v * ((j : Int) + 2))) (.dat (.int j)) (.dat (.int v)) (.dat (.int ((j : Int) % (most : Int)))) hj' (by rw [List.length_set]; exact hr)
    refine ⟨rows', a', b', c', h1, ?_⟩
    rw [← h2]
    have e2 := atI_int hat
    have e3 := ixN_nat hat
    rw [← e1] at e2 e3
    refine loop_cons (δ1 := [sc, .dat (.int most), .cel 0, .dat (.int j), .dat (.int v), c]) rfl ?_
    simp [M_cells_b3, M_cells_1, M_cells_2, hm, e2, e3, q1]
theorem cells_ok {ns : List Int} {most : Nat} (hm : 0 < most) (hm2 : most ≤ 60) (hn : ns.length ≤ 63) : ∃ ms : List Int, ms ≠ [] ∧ ms.length ≤ most ∧ M_cells [.dat (.scr ns), .dat (.int most)] [] = some (.fr (ms.map D.int), []) := by
  have c1 : cutI ns none (some (most : Int)) = ns.take most := by
    unfold cutI
    rw [HT.sIx_none, HT.sIx_nat, List.drop_zero, Nat.sub_zero]
    by_cases h : most ≤ ns.length
    · rw [Nat.min_eq_left h]
    · rw [Nat.min_eq_right (by omega), List.take_length, List.take_of_length_le (by omega)]
  have c2 : cutI ns (some (most : Int)) (some 63) = ns.drop most := by
    unfold cutI
    rw [HT.sIx_nat, show HT.sIx ns.length ns.length (some 63) = min 63 ns.length from HT.sIx_nat ns.length ns.length 63, Nat.min_eq_right hn]
    by_cases h : most ≤ ns.length
    · rw [Nat.min_eq_left h, List.take_of_length_le (by rw [List.length_drop]; exact Nat.le_refl _)]
    · rw [Nat.min_eq_right (by omega), List.drop_length, List.drop_eq_nil_of_le (by omega), List.take_nil]
  -- the rows at first
  obtain ⟨rows, hr1, hr2, hr3⟩ : ∃ rows : List Int, rows ≠ [] ∧ (ns.drop most = [] → rows.length ≤ most) ∧ (ns.drop most ≠ [] → rows.length = most) ∧ M_cells_0 [.dat (.scr ns), .dat (.int most), .no, .no, .no, .no] [] = some (.nx [.dat (.scr ns), .dat (.int most), .cel 0, .no, .no, .no] [rows.map D.int]) := by
    cases hq : ns with
    | nil => exact ⟨[0], by simp, fun _ => by simp; omega, fun z => absurd (by simp) z, by simp [M_cells_0, cutD]⟩
    | cons n0 nr =>
      rw [← hq]
      have hl : (ns.take most).length = min most ns.length := List.length_take
      have hp : 0 < ns.length := by rw [hq, List.length_cons]; omega
      have hne : ns.take most ≠ [] := fun z => by
        rw [z] at hl
        simp at hl
        omega
      have hc : ∃ x r, ns.take most = x :: r := List.exists_cons_of_ne_nil hne
      obtain ⟨x, r, hx⟩ := hc
      refine ⟨ns.take most, hne, fun _ => by omega, fun z => ?_, ?_⟩
      · have : most < ns.length := by
          apply Classical.byContradiction
          intro h
          exact z (List.drop_eq_nil_of_le (by omega))
        omega
      · simp only [M_cells_0, mSetC, mOr, mCb, mCons, mSl, mVar, mNo, mSo, mNil, mLst, mC, List.getElem?_cons_zero, List.getElem?_cons_succ, sqOf, fList, froz, cut_ints, c1]
        simp [hx]
  obtain ⟨hr3, hr4⟩ := hr3
  have fin : ∀ (rows' : List Int) (a b c : R), loop yes (tgPair 3 4) M_cells_b3 (enumD 0 ((ns.drop most).map D.int)) [.dat (.scr ns), .dat (.int most), .cel 0, .no, .no, .no] [rows.map D.int] = some (.nx [.dat (.scr ns), .dat (.int most), .cel 0, a, b, c] [rows'.map D.int]) → M_cells [.dat (.scr ns), .dat (.int most)] [] = some (.fr (rows'.map D.int), []) := by
    intro rows' a b c h
    have h4 : M_cells_4 [.dat (.scr ns), .dat (.int most), .cel 0, .no, .no, .no] [rows.map D.int] = some (.nx [.dat (.scr ns), .dat (.int most), .cel 0, a, b, c] [rows'.map D.int]) := by
      simpa [M_cells_4, cut_ints, c2] using h
    simp [M_cells, hr4, h4, M_cells_5]
  by_cases h0 : ns.drop most = []
  · refine ⟨rows, hr1, hr2 h0, fin rows .no .no .no ?_⟩
    rw [h0]
    rfl
  · obtain ⟨rows', a', b', c', h1, h2⟩ := cells_loop (most := most) hm (.dat (.scr ns)) (ns.drop most) 0 rows .no .no .no (by rw [List.length_drop]; omega) (hr3 h0)
    refine ⟨rows', fun z => ?_, by omega, fin rows' a' b' c' h2⟩
    rw [z] at h1
    simp at h1
    omega
end DL
set_option Elab.async false
set_option linter.all false
set_option maxRecDepth 100000
set_option maxHeartbeats 1000000
namespace DL
open PySem L2

theorem lc_fil {t : TGT} {mt : MT} {me : ME} {δ : Sl} {μ : Mu} {p : D → Bool} {g : D → D} : ∀ (xs acc : List D), acc.length + xs.length ≤ 100000 →
    (∀ d ∈ xs, ∃ δ1, t d δ = some δ1 ∧ mt δ1 μ = some (p d, μ) ∧ (p d = true → ∃ r, me δ1 μ = some (r, μ) ∧ toD r = some (g d))) → lcLoop yes t mt me δ xs acc μ = some (acc ++ (xs.filter p).map g, μ)
  | [], acc, _, _ => by simp [lcLoop]
  | x :: xs, acc, hl, h => by
    obtain ⟨δ1, h1, h2, h3⟩ := h x List.mem_cons_self
    rw [List.length_cons] at hl
    cases hp : p x with
    | false =>
      have ih := lc_fil (p := p) (g := g) xs acc (by omega) fun d hd => h d (List.mem_cons_of_mem _ hd)
      rw [hp] at h2
      simp [lcLoop, h1, h2, ih, hp]
    | true =>
      obtain ⟨r, h4, h5⟩ := h3 hp
      have ih := lc_fil (p := p) (g := g) xs (acc ++ [g x]) (by rw [List.length_append]; simp; omega) fun d hd => h d (List.mem_cons_of_mem _ hd)
      rw [hp] at h2
      have hl2 : acc.length < 100000 := by omega
      simp only [lcLoop, yes, if_true, h1, h2, h4, h5, hl2]
      rw [ih, List.filter_cons_of_pos hp, List.map_cons, List.append_assoc]
      rfl
theorem lc_map {t : TGT} {me : ME} {δ : Sl} {μ : Mu} {g : D → D} (xs : List D) (hl : xs.length ≤ 100000)
    (h : ∀ d ∈ xs, ∃ δ1, t d δ = some δ1 ∧ ∃ r, me δ1 μ = some (r, μ) ∧ toD r = some (g d)) : lcLoop yes t mYes me δ xs [] μ = some (xs.map g, μ) := by
  have := lc_fil (t := t) (mt := mYes) (me := me) (δ := δ) (μ := μ) (p := fun _ => true) (g := g) xs [] (by simpa using hl) fun d hd => by
    obtain ⟨δ1, h1, h2⟩ := h d hd
    exact ⟨δ1, h1, rfl, fun _ => h2⟩
  rw [this, List.nil_append, List.filter_eq_self.mpr (fun _ _ => rfl)]
theorem blsOf_map' {α : Type} (f : α → Bool) : ∀ l : List α, blsOf (l.map fun x => D.bl (f x)) = some (l.map f)
  | [] => rfl
  | x :: l => by simp [blsOf, blsOf_map' f l]
def okD : Nat → D → Bool
  | 0, _ => false
  | j + 1, d => match d with
    | .non => true
    | .bl _ => true
    | .int _ => true
    | .str _ => true
    | .tup xs => decide (xs.length ≤ 1000) && xs.all (okD j)
    | .lst xs => decide (xs.length ≤ 1000) && xs.all (okD j)
    | _ => false
theorem pairs_self : ∀ xs : List D, pairsD xs xs = xs.map fun x => .tup [x, x]
  | [] => rfl
  | x :: xs => by simp [pairsD, pairs_self xs]
theorem same_seq {j : Nat} {xs : List D} {a b : R} (hl : xs.length ≤ 1000) (ih : ∀ d ∈ xs, M_same j [.dat d, .dat d] [] = some (.dat (.bl true), [])) :
    lcLoop yes (tgPair 2 3) mYes (M_same_e2 (M_same j)) [a, b, .no, .no] (pairsD xs xs) [] [] = some (xs.map (fun _ => .bl true), []) := by
  rw [pairs_self, lc_map (g := fun _ => .bl true) (xs.map fun x => .tup [x, x]) (by rw [List.length_map]; omega) fun d hd => ?_]
  · rw [List.map_map]
    rfl
  · obtain ⟨x, hx, rfl⟩ := List.mem_map.mp hd
    exact ⟨_, rfl, .dat (.bl true), by simp [M_same_e2, ih x hx], rfl⟩
theorem same_refl : ∀ (j : Nat) (d : D), okD j d = true → M_same j [.dat d, .dat d] [] = some (.dat (.bl true), [])
  | 0, _, h => by cases h
  | j + 1, .non, _ => by
    have a : SeqAt.shaped PyData.none = true := by decide +kernel
    have b : PyData.eqv .none .none = true := by decide +kernel
    simp [M_same, M_same_4, M_same_6, M_same_5, isB, rPy, toPy, a, b]
  | j + 1, .bl b, _ => by simp [M_same, M_same_4, M_same_6, M_same_5, isB]
  | j + 1, .int i, _ => by simp [M_same, M_same_4, M_same_6, M_same_7, isB]
  | j + 1, .str x, _ => by simp [M_same, M_same_4, M_same_6, M_same_5, isB]
  | j + 1, .tup xs, h => by
    simp only [okD, Bool.and_eq_true, decide_eq_true_eq, List.all_eq_true] at h
    have q := same_seq (a := .dat (.tup xs)) (b := .dat (.tup xs)) h.1 fun d hd => same_refl j d (h.2 d hd)
    have q2 : blsOf (xs.map (fun _ => D.bl true)) = some (xs.map fun _ => true) := blsOf_map' (fun _ => true) xs
    simp [M_same, M_same_4, M_same_1, M_same_3, isB, q, q2]
  | j + 1, .lst xs, h => by
    simp only [okD, Bool.and_eq_true, decide_eq_true_eq, List.all_eq_true] at h
    have q := same_seq (a := .dat (.lst xs)) (b := .dat (.lst xs)) h.1 fun d hd => same_refl j d (h.2 d hd)
    have q2 : blsOf (xs.map (fun _ => D.bl true)) = some (xs.map fun _ => true) := blsOf_map' (fun _ => true) xs
    simp [M_same, M_same_4, M_same_1, M_same_3, isB, q, q2]
  | j + 1, .scr _, h => by cases h
  | j + 1, .ins _ _, h => by cases h
  | j + 1, .exc _ _ _, h => by cases h
  | j + 1, .dk _ _, h => by cases h
  | j + 1, .dt _ _, h => by cases h

theorem rgD_len (a b : Int) : (rgD a b).length = (b - a).toNat := by
  unfold rgD
  rw [List.length_map, List.length_range]
end DL
set_option Elab.async false
set_option linter.all false
set_option maxRecDepth 100000
set_option maxHeartbeats 1000000
namespace DL
open PySem L2
def rgI (a b : Int) : List Int := (List.range (b - a).toNat).map fun i => a + (i : Nat)
theorem rgD_ints (a b : Int) : rgD a b = (rgI a b).map D.int := by
  unfold rgD rgI
  rw [List.map_map]
  rfl
theorem mem_rgI {a b x : Int} : x ∈ rgI a b ↔ a ≤ x ∧ x < b := by
  unfold rgI
  rw [List.mem_map]
  constructor
  · rintro ⟨i, hi, rfl⟩
    rw [List.mem_range] at hi
    omega
  · rintro ⟨h1, h2⟩
    exact ⟨(x - a).toNat, by rw [List.mem_range]; omega, by omega⟩
def T_e0 (r : MF) : ME := (mCall (callX r) (mCons (mVar 1) mNil))
def T_1 (r : MF) : MS := (mRet (mCb fTuple (mCons (mLc (mIt (mVar 0)) (tgName 1) mYes (T_e0 r) [1]) mNil)))
def T_2 (r : MF) : MS := (mIfS (mB (mIsi2 "list" "tuple" (mVar 0))) (T_1 r) mNx)
def T_3 (r : MF) : MS := (mRet (mVar 0))
def T_ : Nat → MF
  | 0 => fun _ _ => none
  | j + 1 => mDef 1 2 (mSeq (T_2 (T_ j))
      (T_3 (T_ j)))
end DL
set_option Elab.async false
set_option linter.all false
set_option maxRecDepth 100000
set_option maxHeartbeats 1000000

namespace DL
inductive Fo where
  | by (a : Int) | part (t b : Int) | cells (w s : Int) | any (x y : Fo) | both (x y : Fo)
/-- a form that may be made -/
def Fo.ok : Fo → Prop
  | .by a => 0 ≤ a
  | .part t b => 0 ≤ t ∧ t < b
  | .cells w _ => 0 < w
  | .any x y => x.ok ∧ y.ok
  | .both x y => x.ok ∧ y.ok
def Fo.near : Fo → Int → Int → Prop
  | .by a, x, y => (x - y).natAbs ≤ a
  | .part t b, x, y => ((x - y).natAbs : Int) * b ≤ t * max (x.natAbs : Int) (y.natAbs : Int)
  | .cells w s, x, y => (x - s) / w = (y - s) / w
  | .any f g, x, y => f.near x y ∨ g.near x y
  | .both f g, x, y => f.near x y ∧ g.near x y
def partR (t b n : Int) : Int × Int :=
  let z := (n.natAbs : Int)
  let i := z - z * t / b
  let o := z * b / (b - t)
  if 0 ≤ n then (i, o) else (-o, -i)
def Fo.reach : Fo → Int → Int × Int
  | .by a, n => (n - a, n + a)
  | .part t b, n => partR t b n
  | .cells w s, n => (s + (n - s) / w * w, s + (n - s) / w * w + w - 1)
  | .any f g, n => (min (f.reach n).1 (g.reach n).1, max (f.reach n).2 (g.reach n).2)
  | .both f g, n => (max (f.reach n).1 (g.reach n).1, min (f.reach n).2 (g.reach n).2)
end DL
set_option Elab.async false
set_option linter.all false
set_option maxRecDepth 100000
set_option maxHeartbeats 1000000

namespace DL
open PySem L2
def M_Slack_init : MIn := mInit 3 3 (mbTup [0, 1] (mTup (mCons (mVar 1) (mCons (mVar 2) mNil))))
def M_Slack_part_0 : MS := mNever
def M_Slack_part_1 : MS := (mIfS (mtNot (mB (mChain fLeI fLtI (mC (.int 0)) (mVar 0) (mVar 1)))) M_Slack_part_0 mNx)
def M_Slack_part_2 : MS := (mRet (mMake 0 M_Slack_init (mCons (mC (.str "part")) (mCons (mTup (mCons (mVar 0) (mCons (mVar 1) mNil))) mNil))))
def M_Slack_part : MF := mDef 2 2
  (mSeq M_Slack_part_1
  M_Slack_part_2)
def M_Slack_reach_by_part_0 : MS := (mAsg (tgPair 2 3) (mAttr 0 1 (mVar 0)))
def M_Slack_reach_by_part_1 : MS := (mSet 4 (mCb fAbs (mCons (mVar 1) mNil)))
def M_Slack_reach_by_part_2 : MS := (mPar false false 5 6 (mOp fSub (mVar 4) (mOp fDiv (mOp fMul (mVar 4) (mVar 2)) (mVar 3))) (mOp fDiv (mOp fMul (mVar 4) (mVar 3)) (mOp fSub (mVar 3) (mVar 2))))
def M_Slack_reach_by_part_3 : MS := (mRet (mIf (mB (mOp fGeI (mVar 1) (mC (.int 0)))) (mTup (mCons (mVar 5) (mCons (mVar 6) mNil))) (mTup (mCons (mUn (fun i => -i) (mVar 6)) (mCons (mUn (fun i => -i) (mVar 5)) mNil)))))
def M_Slack_reach_by_part : MF := mDef 2 7
  (mSeq M_Slack_reach_by_part_0
  (mSeq M_Slack_reach_by_part_1
  (mSeq M_Slack_reach_by_part_2
  M_Slack_reach_by_part_3)))
def M_Slack_reach_0 (r : MF) : MS := (mRet (mTup (mCons (mOp fSub (mVar 1) (mOp fIx (mAttr 0 1 (mVar 0)) (mC (.int 0)))) (mCons (mOp fAdd (mVar 1) (mOp fIx (mAttr 0 1 (mVar 0)) (mC (.int 0)))) mNil))))
def M_Slack_reach_1 (r : MF) : MS := (mIfS (mB (mOp (fEq false) (mAttr 0 0 (mVar 0)) (mC (.str "by")))) (M_Slack_reach_0 r) mNx)
def M_Slack_reach_2 (r : MF) : MS := (mRet (mMeth 0 (callX M_Slack_reach_by_part) (mVar 0) (mCons (mVar 1) mNil)))
def M_Slack_reach_3 (r : MF) : MS := (mIfS (mB (mOp (fEq false) (mAttr 0 0 (mVar 0)) (mC (.str "part")))) (M_Slack_reach_2 r) mNx)
def M_Slack_reach_4 (r : MF) : MS := (mAsg (tgPair 2 3) (mAttr 0 1 (mVar 0)))
def M_Slack_reach_5 (r : MF) : MS := (mSet 4 (mOp fAdd (mVar 3) (mOp fMul (mOp fDiv (mOp fSub (mVar 1) (mVar 3)) (mVar 2)) (mVar 2))))
def M_Slack_reach_6 (r : MF) : MS := (mRet (mTup (mCons (mVar 4) (mCons (mOp fSub (mOp fAdd (mVar 4) (mVar 2)) (mC (.int 1))) mNil))))
def M_Slack_reach_7 (r : MF) : MS := (mIfS (mB (mOp (fEq false) (mAttr 0 0 (mVar 0)) (mC (.str "cells")))) (mSeq (M_Slack_reach_4 r)
  (mSeq (M_Slack_reach_5 r)
  (M_Slack_reach_6 r))) mNx)
def M_Slack_reach_8 (r : MF) : MS := (mAsg (tgPair 5 6) (mMeth 0 (callX r) (mOp fIx (mAttr 0 1 (mVar 0)) (mC (.int 0))) (mCons (mVar 1) mNil)))
def M_Slack_reach_9 (r : MF) : MS := (mAsg (tgPair 4 7) (mMeth 0 (callX r) (mOp fIx (mAttr 0 1 (mVar 0)) (mC (.int 1))) (mCons (mVar 1) mNil)))
def M_Slack_reach_10 (r : MF) : MS := (mRet (mTup (mCons (mCb fMin (mCons (mCb fInt (mCons (mVar 5) mNil)) (mCons (mCb fInt (mCons (mVar 4) mNil)) mNil))) (mCons (mCb fMax (mCons (mCb fInt (mCons (mVar 6) mNil)) (mCons (mCb fInt (mCons (mVar 7) mNil)) mNil))) mNil))))
def M_Slack_reach_11 (r : MF) : MS := (mIfS (mB (mOp (fEq false) (mAttr 0 0 (mVar 0)) (mC (.str "|")))) (M_Slack_reach_10 r) mNx)
def M_Slack_reach_12 (r : MF) : MS := (mRet (mTup (mCons (mCb fMax (mCons (mCb fInt (mCons (mVar 5) mNil)) (mCons (mCb fInt (mCons (mVar 4) mNil)) mNil))) (mCons (mCb fMin (mCons (mCb fInt (mCons (mVar 6) mNil)) (mCons (mCb fInt (mCons (mVar 7) mNil)) mNil))) mNil))))
def M_Slack_reach : Nat → MF
  | 0 => fun _ _ => none
  | j + 1 => mDef 2 8 (mSeq (M_Slack_reach_1 (M_Slack_reach j))
      (mSeq (M_Slack_reach_3 (M_Slack_reach j))
      (mSeq (M_Slack_reach_7 (M_Slack_reach j))
      (mSeq (M_Slack_reach_8 (M_Slack_reach j))
      (mSeq (M_Slack_reach_9 (M_Slack_reach j))
      (mSeq (M_Slack_reach_11 (M_Slack_reach j))
      (M_Slack_reach_12 (M_Slack_reach j))))))))
def M_Slack_cells_0 : MS := (mRet (mMake 0 M_Slack_init (mCons (mC (.str "cells")) (mCons (mTup (mCons (mVar 0) (mCons (mVar 1) mNil))) mNil))))
def M_Slack_cells : MF := mDef 2 2
  M_Slack_cells_0
def M_Slack_by_0 : MS := (mRet (mMake 0 M_Slack_init (mCons (mC (.str "by")) (mCons (mTup (mCons (mVar 0) mNil)) mNil))))
def M_Slack_by : MF := mDef 1 1
  M_Slack_by_0
def M_is_number_0 : MS := (mRet (mAnd (mIsiA "int" (mVar 0)) (mNot (mIsiA "bool" (mVar 0)))))
def M_is_number : MF := mDef 1 1
  M_is_number_0
def M_slack_of_0 : MS := (mRet (mIf (mB (mCall (callX M_is_number) (mCons (mVar 0) mNil))) (mCall (callX M_Slack_by) (mCons (mVar 0) mNil)) (mVar 0)))
def M_slack_of : MF := mDef 1 1
  M_slack_of_0
def M_Slack_or_0 : MS := (mRet (mMake 0 M_Slack_init (mCons (mC (.str "|")) (mCons (mTup (mCons (mVar 0) (mCons (mCall (callX M_slack_of) (mCons (mVar 1) mNil)) mNil))) mNil))))
def M_Slack_or : MF := mDef 2 2
  M_Slack_or_0
def M_Slack_and_0 : MS := (mRet (mMake 0 M_Slack_init (mCons (mC (.str "&")) (mCons (mTup (mCons (mVar 0) (mCons (mCall (callX M_slack_of) (mCons (mVar 1) mNil)) mNil))) mNil))))
def M_Slack_and : MF := mDef 2 2
  M_Slack_and_0
def Fo.toF : Fo → D
  | .by a => .tup [.str "by", .int a]
  | .part t b => .tup [.str "part", .int t, .int b]
  | .cells w s => .tup [.str "cells", .int w, .int s]
  | .any x y => .tup [.str "|", x.toF, y.toF]
  | .both x y => .tup [.str "&", x.toF, y.toF]
def Fo.toS : Fo → D
  | .by a => .ins 0 [.str "by", .tup [.int a]]
  | .part t b => .ins 0 [.str "part", .tup [.int t, .int b]]
  | .cells w s => .ins 0 [.str "cells", .tup [.int w, .int s]]
  | .any x y => .ins 0 [.str "|", .tup [x.toS, y.toS]]
  | .both x y => .ins 0 [.str "&", .tup [x.toS, y.toS]]
/-- .. within the bounds of the rules -/
def Fo.small : Fo → Prop
  | .by _ => True
  | .part _ b => b < 1073741824
  | .cells w _ => w < 1073741824
  | .any x y => x.small ∧ y.small
  | .both x y => x.small ∧ y.small
def Fo.deep : Fo → Nat
  | .any x y => max x.deep y.deep + 1
  | .both x y => max x.deep y.deep + 1
  | _ => 0
theorem init_eq {a b : D} : M_Slack_init [.dat a, .dat b] [] = some ([a, b], []) := rfl
end DL
set_option Elab.async false
set_option linter.all false
set_option maxRecDepth 100000
set_option maxHeartbeats 1000000
namespace DL
open PySem L2
@[simp] theorem sn0 : (Str.ofString "|" = Str.ofString "by") = False := eq_false (by decide +kernel)
@[simp] theorem sn1 : (Str.ofString "|" = Str.ofString "part") = False := eq_false (by decide +kernel)
@[simp] theorem sn2 : (Str.ofString "|" = Str.ofString "cells") = False := eq_false (by decide +kernel)
@[simp] theorem sn3 : (Str.ofString "&" = Str.ofString "by") = False := eq_false (by decide +kernel)
@[simp] theorem sn4 : (Str.ofString "&" = Str.ofString "part") = False := eq_false (by decide +kernel)
@[simp] theorem sn5 : (Str.ofString "&" = Str.ofString "cells") = False := eq_false (by decide +kernel)
@[simp] theorem sn6 : (Str.ofString "&" = Str.ofString "|") = False := eq_false (by decide +kernel)
@[simp] theorem sn7 : (Str.ofString "part" = Str.ofString "by") = False := eq_false (by decide +kernel)
@[simp] theorem sn8 : (Str.ofString "cells" = Str.ofString "by") = False := eq_false (by decide +kernel)
@[simp] theorem sn9 : (Str.ofString "cells" = Str.ofString "part") = False := eq_false (by decide +kernel)
@[simp] theorem sn10 : (Str.ofString "by" = Str.ofString "part") = False := eq_false (by decide +kernel)
@[simp] theorem sn11 : (Str.ofString "by" = Str.ofString "cells") = False := eq_false (by decide +kernel)
@[simp] theorem sn12 : (Str.ofString "part" = Str.ofString "cells") = False := eq_false (by decide +kernel)
@[simp] theorem sn13 : (Str.ofString "by" = Str.ofString "|") = False := eq_false (by decide +kernel)
@[simp] theorem sn14 : (Str.ofString "by" = Str.ofString "&") = False := eq_false (by decide +kernel)
@[simp] theorem sn15 : (Str.ofString "part" = Str.ofString "|") = False := eq_false (by decide +kernel)
@[simp] theorem sn16 : (Str.ofString "part" = Str.ofString "&") = False := eq_false (by decide +kernel)
@[simp] theorem sn17 : (Str.ofString "cells" = Str.ofString "|") = False := eq_false (by decide +kernel)
@[simp] theorem sn18 : (Str.ofString "cells" = Str.ofString "&") = False := eq_false (by decide +kernel)
@[simp] theorem sn19 : (Str.ofString "|" = Str.ofString "&") = False := eq_false (by decide +kernel)
theorem seq_nx {m1 m2 : MS} {δ δ' : Sl} {μ μ' : Mu} (h : m1 δ μ = some (.nx δ' μ')) : mSeq m1 m2 δ μ = m2 δ' μ' := by
  unfold mSeq
  rw [h]
theorem def_rt {n N : Nat} {body : MS} {rs : List R} {μ μ' : Mu} {d : D} (hl : rs.length = n) (h : body (rs ++ List.replicate (N - n) .no) μ = some (.rt (.dat d) μ')) (hlow : lowM μ.length μ' = true := by first | rfl | simp) : mDef n N body rs μ = some (.dat d, μ'.take μ.length) := by
  unfold mDef
  rw [if_pos hl, h]
  dsimp only [retR]
  rw [hlow]
theorem toS_ins : ∀ f : Fo, ∃ xs, f.toS = .ins 0 xs
  | .by _ => ⟨_, rfl⟩
  | .part _ _ => ⟨_, rfl⟩
  | .cells _ _ => ⟨_, rfl⟩
  | .any _ _ => ⟨_, rfl⟩
  | .both _ _ => ⟨_, rfl⟩
end DL
set_option Elab.async false
set_option linter.all false
set_option maxRecDepth 100000
set_option maxHeartbeats 1000000

namespace DL
open PySem L2
def M_plain_0 : MS := (mSet 1 (mOp fIx (mLst (mCons (mC (.str "by")) (mCons (mC (.str "by")) (mCons (mC (.str "by")) (mCons (mC (.str "part")) (mCons (mC (.str "cells")) mNil)))))) (mCall (callX M_take) (mCons (mVar 0) (mCons (mC (.int 5)) mNil)))))
def M_plain_1 : MS := (mRet (mTup (mCons (mC (.str "by")) (mCons (mCall (callX M_of) (mCons (mVar 0) (mCons (mLst (mCons (mC (.int 0)) (mCons (mC (.int 1)) (mCons (mC (.int 1)) (mCons (mC (.int 2)) (mCons (mC (.int 2)) (mCons (mC (.int 3)) (mCons (mC (.int 4)) (mCons (mC (.int 6)) mNil))))))))) mNil))) mNil))))
def M_plain_2 : MS := (mIfS (mB (mOp (fEq false) (mVar 1) (mC (.str "by")))) M_plain_1 mNx)
def M_plain_3 : MS := (mSet 2 (mLst (mCons (mTup (mCons (mC (.int 1)) (mCons (mC (.int 2)) mNil))) (mCons (mTup (mCons (mC (.int 1)) (mCons (mC (.int 3)) mNil))) (mCons (mTup (mCons (mC (.int 1)) (mCons (mC (.int 5)) mNil))) (mCons (mTup (mCons (mC (.int 1)) (mCons (mC (.int 10)) mNil))) (mCons (mTup (mCons (mC (.int 2)) (mCons (mC (.int 3)) mNil))) (mCons (mTup (mCons (mC (.int 0)) (mCons (mC (.int 1)) mNil))) mNil))))))))
def M_plain_4 : MS := (mRet (mOp fAdd (mTup (mCons (mC (.str "part")) mNil)) (mCall (callX M_of) (mCons (mVar 0) (mCons (mVar 2) mNil)))))
def M_plain_5 : MS := (mIfS (mB (mOp (fEq false) (mVar 1) (mC (.str "part")))) (mSeq M_plain_3
  M_plain_4) mNx)
def M_plain_6 : MS := (mRet (mTup (mCons (mC (.str "cells")) (mCons (mCall (callX M_of) (mCons (mVar 0) (mCons (mLst (mCons (mC (.int 1)) (mCons (mC (.int 2)) (mCons (mC (.int 3)) (mCons (mC (.int 5)) (mCons (mC (.int 8)) mNil)))))) mNil))) (mCons (mOp fSub (mCall (callX M_take) (mCons (mVar 0) (mCons (mC (.int 9)) mNil))) (mC (.int 4))) mNil)))))
def M_plain : MF := mDef 1 3
  (mSeq M_plain_0
  (mSeq M_plain_2
  (mSeq M_plain_5
  M_plain_6)))
def M_form_0 (r : MF) : MS := (mRet (mCall (callX M_plain) (mCons (mVar 0) mNil)))
def M_form_1 (r : MF) : MS := (mIfS (mtOr (mB (mOp (fEq false) (mVar 1) (mC (.int 0)))) (mB (mOp fGtI (mCall (callX M_take) (mCons (mVar 0) (mCons (mC (.int 3)) mNil))) (mC (.int 0))))) (M_form_0 r) mNx)
def M_form_2 (r : MF) : MS := (mSet 2 (mCall (callX M_of) (mCons (mVar 0) (mCons (mLst (mCons (mC (.str "|")) (mCons (mC (.str "&")) mNil))) mNil))))
def M_form_3 (r : MF) : MS := (mSet 3 (mCall (callX r) (mCons (mVar 0) (mCons (mOp fSub (mVar 1) (mC (.int 1))) mNil))))
def M_form_4 (r : MF) : MS := (mRet (mTup (mCons (mVar 2) (mCons (mVar 3) (mCons (mCall (callX r) (mCons (mVar 0) (mCons (mOp fSub (mVar 1) (mC (.int 1))) mNil))) mNil)))))
def M_form : Nat → MF
  | 0 => fun _ _ => none
  | j + 1 => mDef 2 4 (mSeq (M_form_1 (M_form j))
      (mSeq (M_form_2 (M_form j))
      (mSeq (M_form_3 (M_form j))
      (M_form_4 (M_form j)))))
def M_slack_0 (r : MF) : MS := (mRet (mCall (callX M_Slack_by) (mCons (mOp fIx (mVar 0) (mC (.int 1))) mNil)))
def M_slack_1 (r : MF) : MS := (mIfS (mB (mOp (fEq false) (mOp fIx (mVar 0) (mC (.int 0))) (mC (.str "by")))) (M_slack_0 r) mNx)
def M_slack_2 (r : MF) : MS := (mRet (mCall (callX M_Slack_part) (mCons (mOp fIx (mVar 0) (mC (.int 1))) (mCons (mOp fIx (mVar 0) (mC (.int 2))) mNil))))
def M_slack_3 (r : MF) : MS := (mIfS (mB (mOp (fEq false) (mOp fIx (mVar 0) (mC (.int 0))) (mC (.str "part")))) (M_slack_2 r) mNx)
def M_slack_4 (r : MF) : MS := (mRet (mCall (callX M_Slack_cells) (mCons (mOp fIx (mVar 0) (mC (.int 1))) (mCons (mOp fIx (mVar 0) (mC (.int 2))) mNil))))
def M_slack_5 (r : MF) : MS := (mIfS (mB (mOp (fEq false) (mOp fIx (mVar 0) (mC (.int 0))) (mC (.str "cells")))) (M_slack_4 r) mNx)
def M_slack_6 (r : MF) : MS := (mRet (mBin 0 (callX M_Slack_or) (mCall (callX r) (mCons (mOp fIx (mVar 0) (mC (.int 1))) mNil)) (mCall (callX r) (mCons (mOp fIx (mVar 0) (mC (.int 2))) mNil))))
def M_slack_7 (r : MF) : MS := (mIfS (mB (mOp (fEq false) (mOp fIx (mVar 0) (mC (.int 0))) (mC (.str "|")))) (M_slack_6 r) mNx)
def M_slack_8 (r : MF) : MS := (mRet (mBin 0 (callX M_Slack_and) (mCall (callX r) (mCons (mOp fIx (mVar 0) (mC (.int 1))) mNil)) (mCall (callX r) (mCons (mOp fIx (mVar 0) (mC (.int 2))) mNil))))
def M_slack : Nat → MF
  | 0 => fun _ _ => none
  | j + 1 => mDef 1 1 (mSeq (M_slack_1 (M_slack j))
      (mSeq (M_slack_3 (M_slack j))
      (mSeq (M_slack_5 (M_slack j))
      (mSeq (M_slack_7 (M_slack j))
      (M_slack_8 (M_slack j))))))
def M_near_0 (r : MF) : MS := (mRet (mOp fLeI (mCb fAbs (mCons (mOp fSub (mVar 1) (mVar 2)) mNil)) (mOp fIx (mVar 0) (mC (.int 1)))))
def M_near_1 (r : MF) : MS := (mIfS (mB (mOp (fEq false) (mOp fIx (mVar 0) (mC (.int 0))) (mC (.str "by")))) (M_near_0 r) mNx)
def M_near_2 (r : MF) : MS := (mSet 3 (mCb fMax (mCons (mCb fInt (mCons (mCb fAbs (mCons (mVar 1) mNil)) mNil)) (mCons (mCb fInt (mCons (mCb fAbs (mCons (mVar 2) mNil)) mNil)) mNil))))
def M_near_3 (r : MF) : MS := (mRet (mOp fLeI (mOp fMul (mCb fAbs (mCons (mOp fSub (mVar 1) (mVar 2)) mNil)) (mOp fIx (mVar 0) (mC (.int 2)))) (mOp fMul (mOp fIx (mVar 0) (mC (.int 1))) (mVar 3))))
def M_near_4 (r : MF) : MS := (mIfS (mB (mOp (fEq false) (mOp fIx (mVar 0) (mC (.int 0))) (mC (.str "part")))) (mSeq (M_near_2 r)
  (M_near_3 r)) mNx)
def M_near_5 (r : MF) : MS := (mPar false false 4 5 (mOp fSub (mVar 1) (mOp fIx (mVar 0) (mC (.int 2)))) (mOp fSub (mVar 2) (mOp fIx (mVar 0) (mC (.int 2)))))
def M_near_6 (r : MF) : MS := (mRet (mOp (fEq false) (mOp fDiv (mVar 4) (mOp fIx (mVar 0) (mC (.int 1)))) (mOp fDiv (mVar 5) (mOp fIx (mVar 0) (mC (.int 1))))))
def M_near_7 (r : MF) : MS := (mIfS (mB (mOp (fEq false) (mOp fIx (mVar 0) (mC (.int 0))) (mC (.str "cells")))) (mSeq (M_near_5 r)
  (M_near_6 r)) mNx)
def M_near_8 (r : MF) : MS := (mSet 4 (mCall (callX r) (mCons (mOp fIx (mVar 0) (mC (.int 1))) (mCons (mVar 1) (mCons (mVar 2) mNil)))))
def M_near_9 (r : MF) : MS := (mSet 5 (mCall (callX r) (mCons (mOp fIx (mVar 0) (mC (.int 2))) (mCons (mVar 1) (mCons (mVar 2) mNil)))))
def M_near_10 (r : MF) : MS := (mRet (mIf (mB (mOp (fEq false) (mOp fIx (mVar 0) (mC (.int 0))) (mC (.str "|")))) (mOr (mVar 4) (mVar 5)) (mAnd (mVar 4) (mVar 5))))
def M_near : Nat → MF
  | 0 => fun _ _ => none
  | j + 1 => mDef 3 6 (mSeq (M_near_1 (M_near j))
      (mSeq (M_near_4 (M_near j))
      (mSeq (M_near_7 (M_near j))
      (mSeq (M_near_8 (M_near j))
      (mSeq (M_near_9 (M_near j))
      (M_near_10 (M_near j)))))))
/-- a form within bounds: of the kinds that are drawn -/
def Fo.fine (n : Nat) (f : Fo) : Prop := f.ok ∧ f.small ∧ f.deep ≤ n
def Fo.nb (f : Fo) (x y : Int) : Bool := decide ((f.reach x).1 ≤ y ∧ y ≤ (f.reach x).2)
theorem Bx.mono {c c' : Int} {b : List D} : Bx c b → c ≤ c' → Bx c' b := fun ⟨x, y, z, h1, h2, h3, h4⟩ h => ⟨x, y, z, h1, h2, by omega, h4⟩
theorem Fo.fine.mono {n m : Nat} {f : Fo} (h : f.fine n) (e : n ≤ m) : f.fine m := ⟨h.1, h.2.1, Nat.le_trans h.2.2 e⟩
/-- how many draws a form takes at the most -/
def drw : Nat → Int
  | 0 => 3
  | n + 1 => 2 + 2 * drw n + 3
theorem is_num_ins {xs : List D} : M_is_number [.dat (.ins 0 xs)] [] = some (.dat (.bl false), []) := by
  simp [M_is_number, M_is_number_0]
theorem slof_ins {xs : List D} : M_slack_of [.dat (.ins 0 xs)] [] = some (.dat (.ins 0 xs), []) := by
  simp [M_slack_of, M_slack_of_0, is_num_ins]
theorem slof_ok (f : Fo) : M_slack_of [.dat f.toS] [] = some (.dat f.toS, []) := by
  obtain ⟨xs, e⟩ := toS_ins f
  rw [e]
  exact slof_ins
theorem or_ok (f g : Fo) : M_Slack_or [.dat f.toS, .dat g.toS] [] = some (.dat (Fo.any f g).toS, []) := by
  simp [M_Slack_or, M_Slack_or_0, slof_ok, init_eq, Fo.toS]
theorem and_ok (f g : Fo) : M_Slack_and [.dat f.toS, .dat g.toS] [] = some (.dat (Fo.both f g).toS, []) := by
  simp [M_Slack_and, M_Slack_and_0, slof_ok, init_eq, Fo.toS]
end DL
set_option Elab.async false
set_option linter.all false
set_option maxRecDepth 100000
set_option maxHeartbeats 1000000
namespace DL
open PySem L2

section
variable {m ma mb : ME} {ms : MA} {mt : MT} {m1 m2 : MS} {δ δ1 δ2 : Sl} {μ μ1 μ2 : Mu} {r : R} {rs : List R} {f : MF} {mi : MI} {t : TGT} {xs ys : List D} {gd : Mu → Bool} {me : ME} {vs : List Nat} {z : R} {d : D} {i : Nat} {fl : Flo} {k : Bool}
theorem cons_eq (hr : ∀ c, r ≠ .fc c) (h : m δ μ = some (r, μ1)) (h2 : ms δ μ1 = some (rs, μ2)) : mCons m ms δ μ = some (froz r :: rs, μ2) := by
  unfold mCons
  rw [h]
  cases r with
  | fc c => exact absurd rfl (hr c)
  | no => dsimp only; rw [h2]
  | dat d => dsimp only; rw [h2]
  | cel k => dsimp only; rw [h2]
  | fr xs => dsimp only; rw [h2]
theorem consD (h : m δ μ = some (.dat d, μ1)) (h2 : ms δ μ1 = some (rs, μ2)) : mCons m ms δ μ = some (.dat d :: rs, μ2) := cons_eq (fun _ z => by cases z) h h2
theorem consF (h : m δ μ = some (.fr xs, μ1)) (h2 : ms δ μ1 = some (rs, μ2)) : mCons m ms δ μ = some (.dat (.lst xs) :: rs, μ2) := cons_eq (fun _ z => by cases z) h h2
theorem cb_eq {f : List R → Mu → Option R} (h : ms δ μ = some (rs, μ1)) (h2 : f rs μ1 = some z) : mCb f ms δ μ = some (z, μ1) := by
  unfold mCb
  rw [h]
  dsimp only
  rw [h2]
theorem call_eq (h : ms δ μ = some (rs, μ1)) (h2 : f rs μ1 = some (r, μ2)) : mCall f ms δ μ = some (r, μ2) := by
  unfold mCall
  rw [h]
  exact h2
theorem lc_eq {mt : MT} (h : mi δ μ = some (xs, gd, μ1)) (h2 : lcLoop gd t mt me (wipeR δ vs) xs [] μ1 = some (ys, μ2)) : mLc mi t mt me vs δ μ = some (.fr ys, μ2) := by
  simp only [mLc, h, h2]
theorem for_eq (h : mi δ μ = some (xs, gd, μ1)) (h2 : loop gd t m1 xs δ μ1 = some fl) : mFor mi t m1 δ μ = some fl := by
  unfold mFor
  rw [h]
  exact h2
theorem b_eq (h : m δ μ = some (.dat (.bl k), μ1)) : mB m δ μ = some (k, μ1) := by
  unfold mB
  rw [h]
theorem not_eq (h : mt δ μ = some (k, μ1)) : mtNot mt δ μ = some (!k, μ1) := by
  unfold mtNot
  rw [h]
theorem ifT_eq (h : mt δ μ = some (true, μ1)) (h2 : m1 δ μ1 = some fl) : mIfS mt m1 m2 δ μ = some fl := by
  unfold mIfS
  rw [h]
  exact h2
theorem ifF_eq (h : mt δ μ = some (false, μ1)) (h2 : m2 δ μ1 = some fl) : mIfS mt m1 m2 δ μ = some fl := by
  unfold mIfS
  rw [h]
  exact h2
theorem ret_eq (h : m δ μ = some (r, μ1)) : mRet m δ μ = some (.rt r μ1) := by
  unfold mRet
  rw [h]
theorem itR1_eq {n : Int} (h : ms δ μ = some ([.dat (.int n)], μ1)) (h0 : -1000000 ≤ n) (h3 : n ≤ 1000000) : mItR1 ms δ μ = some (rgD 0 n, yes, μ1) := by
  have hb : (-(2 ^ 62) : Int) ≤ n ∧ n < 2 ^ 62 := ⟨by omega, by omega⟩
  simp only [mItR1, h, hb, and_self, if_true]
theorem itR2_eq {n a : Int} (h : ms δ μ = some ([.dat (.int a), .dat (.int n)], μ1)) (h0 : -1000000 ≤ a) (h1 : a ≤ 1000000) (h2 : -1000000 ≤ n) (h3 : n ≤ 1000000) : mItR2 ms δ μ = some (rgD a n, yes, μ1) := by
  have hb : (-(2 ^ 62) : Int) ≤ a ∧ a < 2 ^ 62 ∧ (-(2 ^ 62) : Int) ≤ n ∧ n < 2 ^ 62 := ⟨by omega, by omega, by omega, by omega⟩
  simp only [mItR2, h, hb, and_self, if_true]
theorem callX0f (h : cellsIn rs = []) (h2 : f rs [] = some (.fr xs, [])) : callX f rs μ = some (.fr xs, μ) := by
  unfold callX
  rw [h]
  dsimp only
  rw [h2]
  rfl
theorem callX1 {j : Nat} {b b' : List D} {ν : Mu} (h : cellsIn rs = [j]) (hj : μ[j]? = some (.l b)) (h2 : f (reCel rs) [.l b] = some (r, [.l b'])) (hp : plainR r = true) : callX f rs μ = some (r, μ.set j (.l b')) := by
  unfold callX
  rw [h]
  dsimp only
  rw [hj]
  dsimp only
  rw [if_pos (show Cel.low 0 (Cel.l b) = true from rfl), h2]
  dsimp only
  rw [if_pos ⟨hp, rfl⟩]
end

theorem blsOf_true : ∀ l : List D, blsOf (l.map fun _ => D.bl true) = some (l.map fun _ => true)
  | [] => rfl
  | x :: l => by simp [blsOf, blsOf_true l]
/-- all of them true -/
theorem fAll_true (l : List D) (μ : Mu) : fAll [.dat (.lst (l.map fun _ => D.bl true))] μ = some (.dat (.bl true)) := by
  simp [fAll, blsOf_true]
def A_0 (most : Int) : MS := (mSet 1 (mCall (callX M_cells) (mCons (mVar 0) (mCons (mC (.int most)) mNil))))
def A_1 : MS := (mSetC 3 (mCall (callX M_box) (mCons (mVar 1) (mCons (mVar 2) mNil))))
def A_e2 (right : MF) : ME := (mCall (callX right) (mCons (mVar 3) mNil))
def A_3 : MS := (mRet (mC (.bl false)))
def A_4 (right : MF) (turns : Int) : MS := (mIfS (mtNot (mB (mCb fAll (mCons (mLc (mItR1 (mCons (mC (.int turns)) mNil)) (tgName 4) mYes (A_e2 right) [4]) mNil)))) A_3 mNx)
def A_b5 (right : MF) (turns : Int) : MS := (mSeq A_1
  (A_4 right turns))
def A_6 (right : MF) (turns : Int) : MS := (mFor (mItR1 (mCons (mCb fLen (mCons (mVar 1) mNil)) mNil)) (tgName 2) (A_b5 right turns))
def A_7 : MS := (mRet (mC (.bl true)))
def M_lawA (right : MF) (most turns : Int) : MF := mDef 1 5
  (mSeq (A_0 most)
  (mSeq (A_6 right turns)
  A_7))
/-- what is asked of the law's own right: it takes at most k draws, and is true -/
def Right (right : MF) (k N : Int) : Prop := 0 ≤ k ∧ ∀ b c, Bx c b → c ≤ N → ∃ b', Bx (c + k) b' ∧ right [.cel 0] [.l b] = some (.dat (.bl true), [.l b'])
theorem box_cell {ns : List Int} {k : Nat} (hk : k ≤ 1000) (μ : Mu) : ∃ b, Bx 0 b ∧ callX M_box [.dat (.lst (ns.map D.int)), .dat (.int k)] μ = some (.fr b, μ) := by
  obtain ⟨b, h1, h2⟩ := box_ok (ns := ns) hk
  exact ⟨b, h1, callX0f rfl h2⟩
theorem rgD_nat (n : Nat) : rgD 0 (n : Int) = (List.range n).map fun i => D.int (i : Nat) := by
  unfold rgD
  simp
theorem fLen_lst {xs : List D} {n : Nat} (h : xs.length = n) (μ : Mu) : fLen [.dat (.lst xs)] μ = some (.dat (.int (n : Int))) := by
  rw [← h]
  rfl
def B_e1 (right : MF) : ME := (mCall1 right (mCall (callX M_box) (mCons (mVar 1) (mCons (mVar 2) mNil))))
def B_2 (right : MF) : MS := (mRet (mCb fAll (mCons (mLc (mItR1 (mCons (mCb fLen (mCons (mVar 1) mNil)) mNil)) (tgName 2) mYes (B_e1 right) [2]) mNil)))
def B_0 (most : Int) : MS := (mSet 1 (mCall (callX M_cells) (mCons (mVar 0) (mCons (mC (.int most)) mNil))))
def M_lawB (right : MF) (most : Int) : MF := mDef 1 3
  (mSeq (B_0 most)
  (B_2 right))
theorem B_lc {right : MF} {k N : Int} (hN : 0 ≤ N) (hr : Right right k N) {x0 : R} {ms : List Int} (h2 : ms.length ≤ 60) : lcLoop yes (tgName 2) mYes (B_e1 right) [x0, .dat (.lst (ms.map D.int)), .no] (rgD 0 (ms.length : Int)) [] [] = some ((rgD 0 (ms.length : Int)).map fun _ => .bl true, []) :=
  lc_map (g := fun _ => .bl true) (rgD 0 (ms.length : Int)) (by rw [rgD_len]; omega) fun d hd => by
    rw [rgD_ints] at hd
    obtain ⟨n, hn1, rfl⟩ := List.mem_map.mp hd
    obtain ⟨n1, n2⟩ := mem_rgI.mp hn1
    obtain ⟨k, rfl⟩ : ∃ k : Nat, n = (k : Int) := ⟨n.toNat, by omega⟩
    refine ⟨[x0, .dat (.lst (ms.map D.int)), .dat (.int (k : Int))], rfl, .dat (.bl true), ?_, rfl⟩
    obtain ⟨b, h3, h4⟩ := box_cell (ns := ms) (k := k) (by omega) []
    obtain ⟨b', h5, h6⟩ := hr.2 b 0 h3 hN
    have e : mCall (callX M_box) (mCons (mVar 1) (mCons (mVar 2) mNil)) [x0, .dat (.lst (ms.map D.int)), .dat (.int (k : Int))] [] = some (.fr b, []) := call_eq (consD rfl (consD rfl rfl)) h4
    unfold B_e1 mCall1
    rw [e]
    dsimp only
    rw [h6]
    rfl
theorem lawB {right : MF} {most : Nat} {k N : Int} (hm : 0 < most) (hm2 : most ≤ 60) (hN : 0 ≤ N) (hr : Right right k N) : ∀ ns : List Int, ns.length ≤ 63 → M_lawB right most [.dat (.scr ns)] [] = some (.dat (.bl true), []) := by
  intro ns hn
  obtain ⟨ms, h1, h2, h3⟩ := cells_ok (ns := ns) hm hm2 hn
  have h4 := B_lc hN hr (x0 := .dat (.scr ns)) (ms := ms) (by omega)
  refine def_rt (N := 3) (μ' := []) rfl ?_
  have e0 : B_0 (most : Int) [.dat (.scr ns), .no, .no] [] = some (.nx [.dat (.scr ns), .dat (.lst (ms.map D.int)), .no] []) := by
    simp [B_0, h3]
  refine (seq_nx e0).trans (ret_eq (cb_eq (consF (lc_eq (itR1_eq (consD (cb_eq (consD rfl rfl) (fLen_lst (n := ms.length) (List.length_map ..) _)) rfl) (by omega) (by omega)) h4) rfl) (fAll_true _ _)))
end DL
set_option Elab.async false
set_option linter.all false
set_option maxRecDepth 100000
set_option maxHeartbeats 1000000

namespace DL
open PySem L2
def M_Slack_is_near_0 (rc : MF) : MS := (mAsg (tgPair 3 4) (mMeth 0 (callX rc) (mVar 0) (mCons (mVar 1) mNil)))
def M_Slack_is_near_1 (rc : MF) : MS := (mRet (mChain fLeI fLeI (mVar 3) (mVar 2) (mVar 4)))
def M_Slack_is_near (rc : MF) : MF := mDef 3 5
  (mSeq (M_Slack_is_near_0 rc)
  (M_Slack_is_near_1 rc))
def M_are_near_0 (rc : MF) : MS := (mRet (mMeth 0 (callX (M_Slack_is_near rc)) (mCall (callX M_slack_of) (mCons (mVar 0) mNil)) (mCons (mVar 1) (mCons (mVar 2) mNil))))
def M_are_near (rc : MF) : MF := mDef 3 3
  (M_are_near_0 rc)
def M_Slack_call_0 (rc : MF) : MS := (mRet (mMeth 0 (callX (M_Slack_is_near rc)) (mVar 0) (mCons (mVar 1) (mCons (mVar 2) mNil))))
def M_Slack_call (rc : MF) : MF := mDef 3 3
  (M_Slack_call_0 rc)
def M_Slack_ror_0 : MS := (mRet (mMake 0 M_Slack_init (mCons (mC (.str "|")) (mCons (mTup (mCons (mCall (callX M_slack_of) (mCons (mVar 1) mNil)) (mCons (mVar 0) mNil))) mNil))))
def M_Slack_ror : MF := mDef 2 2
  M_Slack_ror_0
def M_Slack_rand_0 : MS := (mRet (mMake 0 M_Slack_init (mCons (mC (.str "&")) (mCons (mTup (mCons (mCall (callX M_slack_of) (mCons (mVar 1) mNil)) (mCons (mVar 0) mNil))) mNil))))
def M_Slack_rand : MF := mDef 2 2
  M_Slack_rand_0
def M_given_0 (sl : MF) : MS := (mRet (mIf (mB (mOp (fEq false) (mCall (callX M_take) (mCons (mVar 0) (mCons (mC (.int 2)) mNil))) (mC (.int 0)))) (mOp fIx (mVar 1) (mC (.int 1))) (mCallK (callX M_Slack_by) 0 1 [0] mNil (mCons (mOp fIx (mVar 1) (mC (.int 1))) mNil))))
def M_given_1 (sl : MF) : MS := (mIfS (mB (mOp (fEq false) (mOp fIx (mVar 1) (mC (.int 0))) (mC (.str "by")))) (M_given_0 sl) mNx)
def M_given_2 (sl : MF) : MS := (mRet (mCallK (callX M_Slack_cells) 0 2 [0, 1] mNil (mCons (mOp fIx (mVar 1) (mC (.int 1))) (mCons (mOp fIx (mVar 1) (mC (.int 2))) mNil))))
def M_given_3 (sl : MF) : MS := (mIfS (mtAnd (mB (mOp (fEq false) (mOp fIx (mVar 1) (mC (.int 0))) (mC (.str "cells")))) (mB (mOp (fEq false) (mCall (callX M_take) (mCons (mVar 0) (mCons (mC (.int 2)) mNil))) (mC (.int 0))))) (M_given_2 sl) mNx)
def M_given_4 (sl : MF) : MS := (mPar false false 2 3 (mOp fIx (mOp fIx (mVar 1) (mC (.int 1))) (mC (.int 1))) (mCall (callX sl) (mCons (mOp fIx (mVar 1) (mC (.int 2))) mNil)))
def M_given_5 (sl : MF) : MS := (mRet (mIf (mB (mOp (fEq false) (mOp fIx (mVar 1) (mC (.int 0))) (mC (.str "|")))) (mOpG (gOr (gII 0 (callX M_Slack_or)) (gOr (gIN 0 (callX M_Slack_or)) (gNI 0 (callX M_Slack_ror)))) (mVar 2) (mVar 3)) (mOpG (gOr (gII 0 (callX M_Slack_and)) (gOr (gIN 0 (callX M_Slack_and)) (gNI 0 (callX M_Slack_rand)))) (mVar 2) (mVar 3))))
def M_given_6 (sl : MF) : MS := (mIfS (mtAnd (mB (mOp (fIn false) (mOp fIx (mVar 1) (mC (.int 0))) (mTup (mCons (mC (.str "|")) (mCons (mC (.str "&")) mNil))))) (mtAnd (mB (mOp (fEq false) (mOp fIx (mOp fIx (mVar 1) (mC (.int 1))) (mC (.int 0))) (mC (.str "by")))) (mB (mOp (fEq true) (mOp fIx (mOp fIx (mVar 1) (mC (.int 2))) (mC (.int 0))) (mC (.str "by")))))) (mSeq (M_given_4 sl)
  (M_given_5 sl)) mNx)
def M_given_7 (sl : MF) : MS := (mRet (mCall (callX sl) (mCons (mVar 1) mNil)))
def M_given (sl : MF) : MF := mDef 2 4
  (mSeq (M_given_1 sl)
  (mSeq (M_given_3 sl)
  (mSeq (M_given_6 sl)
  (M_given_7 sl))))

/-- a reach that is right for forms of depth at most n -/
def RcOk (n : Nat) (rc : MF) : Prop := ∀ f : Fo, f.fine n → ∀ x : Int, rc [.dat f.toS, .dat (.int x)] [] = some (.dat (.tup [.int (f.reach x).1, .int (f.reach x).2]), [])
section
variable {rc : MF} {n : Nat} {f : Fo}
/-- a slack as it may be handed in: also a number for a fixed amount -/
def Giv (f : Fo) (d : D) : Prop := d = f.toS ∨ ∃ a, f = .by a ∧ d = .int a
end
def Fo.kd : Fo → Str
  | .by _ => "by"
  | .part _ _ => "part"
  | .cells _ _ => "cells"
  | .any _ _ => "|"
  | .both _ _ => "&"
def SlOk (n : Nat) (sl : MF) : Prop := ∀ f : Fo, f.fine n → sl [.dat f.toF] [] = some (.dat f.toS, [])
end DL
set_option Elab.async false
set_option linter.all false
set_option maxRecDepth 100000
set_option maxHeartbeats 1000000

namespace DL
open PySem L2
def gdC (k : Nat) (xs : List D) : Mu → Bool := fun μ2 => match μ2[k]? with
  | some (.l ys) => beqDs ys xs
  | _ => false
end DL
set_option Elab.async false
set_option linter.all false
set_option maxRecDepth 100000
set_option maxHeartbeats 1000000

namespace DL
open PySem L2
/-- data without bools, at most so deep -/
def okE : Nat → D → Bool
  | _, .non => true
  | _, .int _ => true
  | _, .str x => PyData.canLay0 (.str x)
  | n + 1, .tup xs => xs.all (okE n)
  | n + 1, .lst xs => xs.all (okE n)
  | _, _ => false
theorem beq_dec {α : Type} [DecidableEq α] [BEq α] [LawfulBEq α] (a b : α) : (a == b) = decide (a = b) := by
  rw [Bool.eq_iff_iff, beq_iff_eq, decide_eq_true_iff]
theorem py_all {n : Nat} (ih : ∀ d, okE n d = true → ∃ p, toPy d = some p ∧ p.canLay0 = true ∧ p.depth ≤ n) : ∀ xs : List D, xs.all (okE n) = true → ∃ ps, toPys xs = some ps ∧ PyData.canLayAll0 ps = true ∧ PyData.depthAll ps ≤ n
  | [], _ => ⟨[], rfl, rfl, Nat.zero_le _⟩
  | x :: xs, h => by
    rw [List.all_cons, Bool.and_eq_true] at h
    obtain ⟨p, h1, h2, h3⟩ := ih x h.1
    obtain ⟨ps, h4, h5, h6⟩ := py_all ih xs h.2
    exact ⟨p :: ps, by simp [toPys, h1, h4], by simp [PyData.canLayAll0, h2, h5], by simp only [PyData.depthAll]; omega⟩
theorem py_ok : ∀ (n : Nat) (d : D), okE n d = true → ∃ p, toPy d = some p ∧ p.canLay0 = true ∧ p.depth ≤ n
  | 0, .non, _ => ⟨_, rfl, rfl, by simp [PyData.depth]⟩
  | n + 1, .non, _ => ⟨_, rfl, rfl, by simp [PyData.depth]⟩
  | 0, .int _, _ => ⟨_, rfl, rfl, by simp [PyData.depth]⟩
  | n + 1, .int _, _ => ⟨_, rfl, rfl, by simp [PyData.depth]⟩
  | 0, .str x, h => ⟨_, rfl, h, by simp [PyData.depth]⟩
  | n + 1, .str x, h => ⟨_, rfl, h, by simp [PyData.depth]⟩
  | n + 1, .tup xs, h => by
    obtain ⟨ps, h1, h2, h3⟩ := py_all (py_ok n) xs h
    exact ⟨.tuple ps, by simp [toPy, h1], by simp [PyData.canLay0, h2], by simp only [PyData.depth]; omega⟩
  | n + 1, .lst xs, h => by
    obtain ⟨ps, h1, h2, h3⟩ := py_all (py_ok n) xs h
    exact ⟨.list ps, by simp [toPy, h1], by simp [PyData.canLay0, h2], by simp only [PyData.depth]; omega⟩
  | 0, .tup _, h => by simp [okE] at h
  | 0, .lst _, h => by simp [okE] at h
  | 0, .bl _, h => by simp [okE] at h
  | n + 1, .bl _, h => by simp [okE] at h
  | 0, .scr _, h => by simp [okE] at h
  | n + 1, .scr _, h => by simp [okE] at h
  | 0, .ins _ _, h => by simp [okE] at h
  | n + 1, .ins _ _, h => by simp [okE] at h
  | 0, .exc _ _ _, h => by simp [okE] at h
  | n + 1, .exc _ _ _, h => by simp [okE] at h
  | 0, .dk _ _, h => by simp [okE] at h
  | n + 1, .dk _ _, h => by simp [okE] at h
  | 0, .dt _ _, h => by simp [okE] at h
  | n + 1, .dt _ _, h => by simp [okE] at h
theorem eqv_all {n : Nat} (ih : ∀ d d' p p', okE n d = true → okE n d' = true → toPy d = some p → toPy d' = some p' → PyData.eqv p p' = beqD d d') : ∀ (xs ys : List D) (ps qs : List PyData), xs.all (okE n) = true → ys.all (okE n) = true → toPys xs = some ps → toPys ys = some qs → PyData.eqvAll ps qs = beqDs xs ys
  | [], [], ps, qs, _, _, h1, h2 => by
    cases h1; cases h2
    simp [PyData.eqvAll, beqDs]
  | [], y :: ys, ps, qs, _, h, h1, h2 => by
    cases h1
    unfold toPys at h2
    split at h2
    · cases h2
      simp [PyData.eqvAll, beqDs]
    · cases h2
  | x :: xs, [], ps, qs, _, _, h1, h2 => by
    cases h2
    unfold toPys at h1
    split at h1
    · cases h1
      simp [PyData.eqvAll, beqDs]
    · cases h1
  | x :: xs, y :: ys, ps, qs, h, h', h1, h2 => by
    rw [List.all_cons, Bool.and_eq_true] at h h'
    unfold toPys at h1 h2
    split at h1
    · rename_i p ps' e1 e2
      cases h1
      split at h2
      · rename_i q qs' e3 e4
        cases h2
        simp only [PyData.eqvAll, beqDs]
        rw [ih x y p q h.1 h'.1 e1 e3, eqv_all ih xs ys ps' qs' h.2 h'.2 e2 e4]
      · cases h2
    · cases h1
theorem eqv_ok : ∀ (n : Nat) (d d' : D) (p p' : PyData), okE n d = true → okE n d' = true → toPy d = some p → toPy d' = some p' → PyData.eqv p p' = beqD d d' := by
  intro n
  induction n with
  | zero =>
    intro d d' p p' h h' e e'
    cases d <;> cases d' <;> first | (simp [okE] at h; done) | (simp [okE] at h'; done) | (simp [toPy] at e e'; subst e; subst e'; simp [PyData.eqv, beqD, beq_dec]; done)
  | succ n ih =>
    intro d d' p p' h h' e e'
    have tl : ∀ {xs : List D} {p : PyData}, toPy (.tup xs) = some p → ∃ ps, p = .tuple ps ∧ toPys xs = some ps := by
      intro xs p e
      unfold toPy at e
      split at e
      · rename_i ps e1
        cases e
        exact ⟨ps, rfl, e1⟩
      · cases e
    have ll : ∀ {xs : List D} {p : PyData}, toPy (.lst xs) = some p → ∃ ps, p = .list ps ∧ toPys xs = some ps := by
      intro xs p e
      unfold toPy at e
      split at e
      · rename_i ps e1
        cases e
        exact ⟨ps, rfl, e1⟩
      · cases e
    cases d with
    | bl _ => simp [okE] at h
    | scr _ => simp [okE] at h
    | ins _ _ => simp [okE] at h
    | exc _ _ _ => simp [okE] at h
    | dk _ _ => simp [okE] at h
    | dt _ _ => simp [okE] at h
    | tup xs =>
      obtain ⟨ps, rfl, e1⟩ := tl e
      cases d' with
      | bl _ => simp [okE] at h'
      | scr _ => simp [okE] at h'
      | ins _ _ => simp [okE] at h'
      | exc _ _ _ => simp [okE] at h'
      | dk _ _ => simp [okE] at h'
      | dt _ _ => simp [okE] at h'
      | tup ys =>
        obtain ⟨qs, rfl, e2⟩ := tl e'
        simp only [PyData.eqv, beqD]
        exact eqv_all ih xs ys ps qs h h' e1 e2
      | lst ys =>
        obtain ⟨qs, rfl, e2⟩ := ll e'
        simp [PyData.eqv, beqD]
      | non => cases e'; simp [PyData.eqv, beqD]
      | int _ => cases e'; simp [PyData.eqv, beqD]
      | str _ => cases e'; simp [PyData.eqv, beqD]
    | lst xs =>
      obtain ⟨ps, rfl, e1⟩ := ll e
      cases d' with
      | bl _ => simp [okE] at h'
      | scr _ => simp [okE] at h'
      | ins _ _ => simp [okE] at h'
      | exc _ _ _ => simp [okE] at h'
      | dk _ _ => simp [okE] at h'
      | dt _ _ => simp [okE] at h'
      | tup ys =>
        obtain ⟨qs, rfl, e2⟩ := tl e'
        simp [PyData.eqv, beqD]
      | lst ys =>
        obtain ⟨qs, rfl, e2⟩ := ll e'
        simp only [PyData.eqv, beqD]
        exact eqv_all ih xs ys ps qs h h' e1 e2
      | non => cases e'; simp [PyData.eqv, beqD]
      | int _ => cases e'; simp [PyData.eqv, beqD]
      | str _ => cases e'; simp [PyData.eqv, beqD]
    | non =>
      cases e
      cases d' with
      | bl _ => simp [okE] at h'
      | scr _ => simp [okE] at h'
      | ins _ _ => simp [okE] at h'
      | exc _ _ _ => simp [okE] at h'
      | dk _ _ => simp [okE] at h'
      | dt _ _ => simp [okE] at h'
      | tup ys => obtain ⟨qs, rfl, e2⟩ := tl e'; simp [PyData.eqv, beqD]
      | lst ys => obtain ⟨qs, rfl, e2⟩ := ll e'; simp [PyData.eqv, beqD]
      | non => cases e'; simp [PyData.eqv, beqD]
      | int _ => cases e'; simp [PyData.eqv, beqD]
      | str _ => cases e'; simp [PyData.eqv, beqD]
    | int _ =>
      cases e
      cases d' with
      | bl _ => simp [okE] at h'
      | scr _ => simp [okE] at h'
      | ins _ _ => simp [okE] at h'
      | exc _ _ _ => simp [okE] at h'
      | dk _ _ => simp [okE] at h'
      | dt _ _ => simp [okE] at h'
      | tup ys => obtain ⟨qs, rfl, e2⟩ := tl e'; simp [PyData.eqv, beqD]
      | lst ys => obtain ⟨qs, rfl, e2⟩ := ll e'; simp [PyData.eqv, beqD]
      | non => cases e'; simp [PyData.eqv, beqD]
      | int _ => cases e'; simp [PyData.eqv, beqD]
      | str _ => cases e'; simp [PyData.eqv, beqD]
    | str _ =>
      cases e
      cases d' with
      | bl _ => simp [okE] at h'
      | scr _ => simp [okE] at h'
      | ins _ _ => simp [okE] at h'
      | exc _ _ _ => simp [okE] at h'
      | dk _ _ => simp [okE] at h'
      | dt _ _ => simp [okE] at h'
      | tup ys => obtain ⟨qs, rfl, e2⟩ := tl e'; simp [PyData.eqv, beqD]
      | lst ys => obtain ⟨qs, rfl, e2⟩ := ll e'; simp [PyData.eqv, beqD]
      | non => cases e'; simp [PyData.eqv, beqD]
      | int _ => cases e'; simp [PyData.eqv, beqD]
      | str _ => cases e'; simp [PyData.eqv, beqD, beq_dec]
theorem feq_ok {n : Nat} (hn : n ≤ 64) (neg : Bool) {d d' : D} (h : okE n d = true) (h' : okE n d' = true) (μ : Mu) : fEq neg (.dat d) (.dat d') μ = some (.dat (.bl (xor neg (beqD d d')))) := by
  obtain ⟨p, h1, h2, h3⟩ := py_ok n d h
  obtain ⟨p', h1', h2', h3'⟩ := py_ok n d' h'
  have e := eqv_ok n d d' p p' h h' h1 h1'
  have s1 : SeqAt.shaped p = true := by simp [SeqAt.shaped, h2]; omega
  have s2 : SeqAt.shaped p' = true := by simp [SeqAt.shaped, h2']; omega
  unfold fEq
  split
  · rename_i i j ei ej
    cases ei; cases ej
    simp [beqD, beq_dec]
  · rename_i i j ei ej
    cases ei; cases ej
    simp [beqD, beq_dec]
  · rename_i i j ei ej
    cases ei
    cases n <;> simp [okE] at h
  · simp only [rPy, h1, h1', s1, s2, Bool.and_self, if_true, e]
theorem beqD_iff {a b : D} : beqD a b = true ↔ a = b := ⟨beqD_eq, fun h => by rw [h]; exact beqD_refl b⟩
end DL
set_option Elab.async false
set_option linter.all false
set_option maxRecDepth 100000
set_option maxHeartbeats 1000000

namespace DL
open PySem L2
def M_Slack_form_0 (r : MF) : MS := (mRet (mTup (mCons (mAttr 0 0 (mVar 0)) (mCons (mMeth 0 (callX r) (mOp fIx (mAttr 0 1 (mVar 0)) (mC (.int 0))) mNil) (mCons (mMeth 0 (callX r) (mOp fIx (mAttr 0 1 (mVar 0)) (mC (.int 1))) mNil) mNil)))))
def M_Slack_form_1 (r : MF) : MS := (mIfS (mB (mOp (fIn false) (mAttr 0 0 (mVar 0)) (mTup (mCons (mC (.str "|")) (mCons (mC (.str "&")) mNil))))) (M_Slack_form_0 r) mNx)
def M_Slack_form_2 (r : MF) : MS := (mRet (mTup (mCons (mAttr 0 0 (mVar 0)) (mStar (mAttr 0 1 (mVar 0)) mNil))))
def M_Slack_form : Nat → MF
  | 0 => fun _ _ => none
  | j + 1 => mDef 1 1 (mSeq (M_Slack_form_1 (M_Slack_form j))
      (M_Slack_form_2 (M_Slack_form j)))
def M_Slack_eq_0 (nc : Nat) (fm : MF) : MS := (mRet (mAnd (mIsiO nc 0 (mVar 1)) (mOp (fEq false) (mMeth 0 (callX fm) (mVar 0) mNil) (mMeth 0 (callX fm) (mVar 1) mNil))))
def M_Slack_eq (nc : Nat) (fm : MF) : MF := mDef 2 2
  (M_Slack_eq_0 nc fm)

def Fo.eqb (f g : Fo) : Bool := beqD f.toF g.toF
def FmOk (n : Nat) (fm : MF) : Prop := ∀ f : Fo, f.deep ≤ n → fm [.dat f.toS] [] = some (.dat f.toF, [])
end DL
set_option Elab.async false
set_option linter.all false
set_option maxRecDepth 100000
set_option maxHeartbeats 1000000

namespace DL
open PySem L2
def M_first_apart_0 (rc : MF) : MS := (mPar false false 4 5 (mCall (callX M_slack_of) (mCons (mVar 0) mNil)) (mCall (callX M_slack_of) (mCons (mVar 1) mNil)))
def M_first_apart_e1 (rc : MF) : ME := (mCb fMin (mCons (mCb fInt (mCons (mOp fIx (mMeth 0 (callX rc) (mVar 9) (mCons (mVar 6) mNil)) (mC (.int 1))) mNil)) (mCons (mCb fInt (mCons (mVar 3) mNil)) mNil)))
def M_first_apart_2 (rc : MF) : MS := (mAsg (tgTup [(tgName 7), (tgName 8)]) (mLc (mIt (mTup (mCons (mVar 4) (mCons (mVar 5) mNil)))) (tgName 9) mYes (M_first_apart_e1 rc) [9]))
def M_first_apart_3 (rc : MF) : MS := (mRet (mTup (mCons (mVar 6) (mCons (mOp fAdd (mCb fMin (mCons (mCb fInt (mCons (mVar 7) mNil)) (mCons (mCb fInt (mCons (mVar 8) mNil)) mNil))) (mC (.int 1))) mNil))))
def M_first_apart_4 (rc : MF) : MS := (mIfS (mB (mOp (fEq true) (mVar 7) (mVar 8))) (M_first_apart_3 rc) mNx)
def M_first_apart_b5 (rc : MF) : MS := (mSeq (M_first_apart_2 rc)
  (M_first_apart_4 rc))
def M_first_apart_6 (rc : MF) : MS := (mFor (mItR2 (mCons (mVar 2) (mCons (mOp fAdd (mVar 3) (mC (.int 1))) mNil))) (tgName 6) (M_first_apart_b5 rc))
def M_first_apart_7 (rc : MF) : MS := (mRet (mC .non))
def M_first_apart (rc : MF) : MF := mDef 4 10
  (mSeq (M_first_apart_0 rc)
  (mSeq (M_first_apart_6 rc)
  (M_first_apart_7 rc)))

/-- the first pair of a row of numbers -/
def faL (f g : Fo) (hi : Int) : List Int → Option (Int × Int)
  | [] => none
  | n :: ns => if min (f.reach n).2 hi = min (g.reach n).2 hi then faL f g hi ns else some (n, min (min (f.reach n).2 hi) (min (g.reach n).2 hi) + 1)
def fa (f g : Fo) (lo hi : Int) : Option (Int × Int) := faL f g hi (rgI lo (hi + 1))
def apD : Option (Int × Int) → D
  | none => .non
  | some (p, q) => .tup [.int p, .int q]
end DL
set_option Elab.async false
set_option linter.all false
set_option maxRecDepth 100000
set_option maxHeartbeats 1000000
namespace DL
open PySem L2
end DL
set_option Elab.async false
set_option linter.all false
set_option maxRecDepth 100000
set_option maxHeartbeats 1000000

namespace DL
open PySem L2
def M_number_of_0 : MS := (mRet (mIf (mB (mCall (callX M_is_number) (mCons (mVar 0) mNil))) (mVar 0) (mAttr 1 1 (mVar 0))))
def M_number_of : MF := mDef 1 1
  M_number_of_0
def M_Reading_slack_0 : MS := (mRet (mIf (mB (mCall (callX M_is_number) (mCons (mAttr 1 0 (mVar 0)) mNil))) (mCall (callX M_Slack_by) (mCons (mAttr 1 0 (mVar 0)) mNil)) (mAttr 1 0 (mVar 0))))
def M_Reading_slack : MF := mDef 1 1
  M_Reading_slack_0
def M_Reading_is_same_0 (rc : MF) : MS := (mRet (mMeth 0 (callX (M_Slack_is_near rc)) (mProp 1 (callX M_Reading_slack) (mVar 0)) (mCons (mAttr 1 1 (mVar 0)) (mCons (mVar 1) mNil))))
def M_Reading_is_same_1 (rc : MF) : MS := (mIfS (mB (mCall (callX M_is_number) (mCons (mVar 1) mNil))) (M_Reading_is_same_0 rc) mNx)
def M_Reading_is_same_2 (rc : MF) : MS := (mRet (mOr (mMeth 0 (callX (M_Slack_is_near rc)) (mProp 1 (callX M_Reading_slack) (mVar 0)) (mCons (mAttr 1 1 (mVar 0)) (mCons (mAttr 1 1 (mVar 1)) mNil))) (mMeth 0 (callX (M_Slack_is_near rc)) (mProp 1 (callX M_Reading_slack) (mVar 1)) (mCons (mAttr 1 1 (mVar 0)) (mCons (mAttr 1 1 (mVar 1)) mNil)))))
def M_Reading_is_same (rc : MF) : MF := mDef 2 2
  (mSeq (M_Reading_is_same_1 rc)
  (M_Reading_is_same_2 rc))
def M_Reading_le_0 (rc : MF) : MS := (mRet (mOr (mOp fLt (mAttr 1 1 (mVar 0)) (mCall (callX M_number_of) (mCons (mVar 1) mNil))) (mMeth 1 (callX (M_Reading_is_same rc)) (mVar 0) (mCons (mVar 1) mNil))))
def M_Reading_le (rc : MF) : MF := mDef 2 2
  (M_Reading_le_0 rc)
def M_Reading_ge_0 (rc : MF) : MS := (mRet (mOr (mOp fGtI (mAttr 1 1 (mVar 0)) (mCall (callX M_number_of) (mCons (mVar 1) mNil))) (mMeth 1 (callX (M_Reading_is_same rc)) (mVar 0) (mCons (mVar 1) mNil))))
def M_Reading_ge (rc : MF) : MF := mDef 2 2
  (M_Reading_ge_0 rc)
def M_Reading_init : MIn := mInit 3 3 (mbSeq (mbSet 1 (mVar 1)) (mbSet 0 (mVar 2)))
def M_Reading_is_known_0 : MS := (mRet (mOr (mIsiO 2 1 (mVar 1)) (mCall (callX M_is_number) (mCons (mVar 1) mNil))))
def M_Reading_is_known : MF := mDef 2 2
  M_Reading_is_known_0
def M_Reading_eq_0 (rc : MF) : MS := (mRet (mAnd (mMeth 1 (callX M_Reading_is_known) (mVar 0) (mCons (mVar 1) mNil)) (mMeth 1 (callX (M_Reading_is_same rc)) (mVar 0) (mCons (mVar 1) mNil))))
def M_Reading_eq (rc : MF) : MF := mDef 2 2
  (M_Reading_eq_0 rc)
def M_Reading_gt_0 (rc : MF) : MS := (mRet (mAnd (mOp fGtI (mAttr 1 1 (mVar 0)) (mCall (callX M_number_of) (mCons (mVar 1) mNil))) (mNot (mMeth 1 (callX (M_Reading_is_same rc)) (mVar 0) (mCons (mVar 1) mNil)))))
def M_Reading_gt (rc : MF) : MF := mDef 2 2
  (M_Reading_gt_0 rc)
def M_Reading_lt_0 (rc : MF) : MS := (mRet (mAnd (mOp fLt (mAttr 1 1 (mVar 0)) (mCall (callX M_number_of) (mCons (mVar 1) mNil))) (mNot (mMeth 1 (callX (M_Reading_is_same rc)) (mVar 0) (mCons (mVar 1) mNil)))))
def M_Reading_lt (rc : MF) : MF := mDef 2 2
  (M_Reading_lt_0 rc)
def M_Reading_ne_0 (rc : MF) : MS := (mRet (mOr (mNot (mMeth 1 (callX M_Reading_is_known) (mVar 0) (mCons (mVar 1) mNil))) (mNot (mMeth 1 (callX (M_Reading_is_same rc)) (mVar 0) (mCons (mVar 1) mNil)))))
def M_Reading_ne (rc : MF) : MF := mDef 2 2
  (M_Reading_ne_0 rc)
abbrev rdD (v : Int) (d : D) : D := .ins 1 [d, .int v]
section
variable {rc : MF} {n : Nat} {f g : Fo} {d d' : D} {v y : Int}
end

theorem lst_eq {ms : MA} {δ : Sl} {μ μ1 : Mu} {rs : List R} {ds : List D} (h : ms δ μ = some (rs, μ1)) (h2 : allD rs = some ds) (h3 : ds.length ≤ 100000) : mLst ms δ μ = some (.fr ds, μ1) := by
  unfold mLst
  rw [h]
  dsimp only
  rw [h2]
  dsimp only
  rw [if_pos h3]
end DL
set_option Elab.async false
set_option linter.all false
set_option maxRecDepth 100000
set_option maxHeartbeats 1000000

namespace DL
open PySem L2
theorem mop_eq {f : R → R → Mu → Option R} {ma mb : ME} {δ : Sl} {μ μ1 μ2 : Mu} {x y z : R} (h1 : ma δ μ = some (x, μ1)) (h2 : mb δ μ1 = some (y, μ2)) (h3 : f x y μ2 = some z) : mOp f ma mb δ μ = some (z, μ2) := by
  unfold mOp
  rw [h1]
  dsimp only
  rw [h2]
  dsimp only
  rw [h3]
def Fo.less (f : Fo) (v w : Int) : Bool := decide (v < w) && !f.nb v w
def dn (p : Nat → Bool) : Nat → Nat
  | 0 => 0
  | n + 1 => if p n = true then dn p n else n + 1
def calmB (f : Fo) : List Int → Bool
  | a :: b :: r => !f.less b a && calmB f (b :: r)
  | _ => true
section
variable {f : Fo}
def posL (f : Fo) (ls : List Int) (v : Int) : Nat := dn (fun n => f.less v (ls.getD n 0)) ls.length
def putL (f : Fo) (ls : List Int) (v : Int) : List Int := ls.take (posL f ls v) ++ v :: ls.drop (posL f ls v)
end
end DL
set_option Elab.async false
set_option linter.all false
set_option maxRecDepth 100000
set_option maxHeartbeats 1000000

namespace DL
open PySem L2
abbrev sqD (k : Bool) (xs : List D) : D := if k = true then .tup xs else .lst xs
def asc4 (s2 : MS) : MS := wh M_ascending_c3 s2 1000
def ascb6 (s2 : MS) : MS := mSeq M_ascending_1 (mSeq (asc4 s2) M_ascending_5)
def asc7 (s2 : MS) : MS := mFor (mIt (mVar 0)) (tgName 2) (ascb6 s2)
def ascF (s2 : MS) : MF := mDef 1 4 (mSeq M_ascending_0 (mSeq (asc7 s2) M_ascending_8))
def asc2 : MS := (mAug 3 (fun x y => x - y) (mC (.int 1)))
def StepD (s2 : MS) : Prop := ∀ (x0 x1 x2 : R) (n : Nat) (μ : Mu), s2 [x0, x1, x2, .dat (.int ((n + 1 : Nat) : Int))] μ = some (.nx [x0, x1, x2, .dat (.int (n : Int))] μ)
section
variable {s2 : MS} {x0 : R}
end
end DL
set_option Elab.async false
set_option linter.all false
set_option maxRecDepth 100000
set_option maxHeartbeats 1000000

namespace DL
namespace V2
open PySem L2
def M_plain_0 : MS := (mSet 1 (mCall (callX M_of) (mCons (mVar 0) (mCons (mLst (mCons (mC (.str "by")) (mCons (mC (.str "by")) (mCons (mC (.str "by")) (mCons (mC (.str "part")) (mCons (mC (.str "cells")) mNil)))))) mNil))))
def M_plain_1 : MS := (mRet (mTup (mCons (mC (.str "by")) (mCons (mCall (callX M_of) (mCons (mVar 0) (mCons (mLst (mCons (mC (.int 0)) (mCons (mC (.int 1)) (mCons (mC (.int 1)) (mCons (mC (.int 2)) (mCons (mC (.int 2)) (mCons (mC (.int 3)) (mCons (mC (.int 4)) (mCons (mC (.int 6)) mNil))))))))) mNil))) mNil))))
def M_plain_2 : MS := (mIfS (mB (mOp (fEq false) (mVar 1) (mC (.str "by")))) M_plain_1 mNx)
def M_plain_3 : MS := (mRet (mOp fAdd (mTup (mCons (mC (.str "part")) mNil)) (mCall (callX M_of) (mCons (mVar 0) (mCons (mLst (mCons (mTup (mCons (mC (.int 1)) (mCons (mC (.int 2)) mNil))) (mCons (mTup (mCons (mC (.int 1)) (mCons (mC (.int 3)) mNil))) (mCons (mTup (mCons (mC (.int 1)) (mCons (mC (.int 5)) mNil))) (mCons (mTup (mCons (mC (.int 1)) (mCons (mC (.int 10)) mNil))) (mCons (mTup (mCons (mC (.int 2)) (mCons (mC (.int 3)) mNil))) (mCons (mTup (mCons (mC (.int 0)) (mCons (mC (.int 1)) mNil))) mNil))))))) mNil)))))
def M_plain_4 : MS := (mIfS (mB (mOp (fEq false) (mVar 1) (mC (.str "part")))) M_plain_3 mNx)
def M_plain_5 : MS := (mRet (mTup (mCons (mC (.str "cells")) (mCons (mCall (callX M_of) (mCons (mVar 0) (mCons (mLst (mCons (mC (.int 1)) (mCons (mC (.int 2)) (mCons (mC (.int 3)) (mCons (mC (.int 5)) (mCons (mC (.int 8)) mNil)))))) mNil))) (mCons (mOp fSub (mCall (callX M_take) (mCons (mVar 0) (mCons (mC (.int 9)) mNil))) (mC (.int 4))) mNil)))))
def M_plain : MF := mDef 1 2
  (mSeq M_plain_0
  (mSeq M_plain_2
  (mSeq M_plain_4
  M_plain_5)))
def M_form_0 (r : MF) : MS := (mRet (mCall (callX M_plain) (mCons (mVar 0) mNil)))
def M_form_1 (r : MF) : MS := (mIfS (mtOr (mB (mOp (fEq false) (mVar 1) (mC (.int 0)))) (mB (mOp fGtI (mCall (callX M_take) (mCons (mVar 0) (mCons (mC (.int 3)) mNil))) (mC (.int 0))))) (M_form_0 r) mNx)
def M_form_2 (r : MF) : MS := (mSet 2 (mCall (callX M_of) (mCons (mVar 0) (mCons (mLst (mCons (mC (.str "|")) (mCons (mC (.str "&")) mNil))) mNil))))
def M_form_3 (r : MF) : MS := (mSet 3 (mCall (callX r) (mCons (mVar 0) (mCons (mOp fSub (mVar 1) (mC (.int 1))) mNil))))
def M_form_4 (r : MF) : MS := (mRet (mTup (mCons (mVar 2) (mCons (mVar 3) (mCons (mCall (callX r) (mCons (mVar 0) (mCons (mOp fSub (mVar 1) (mC (.int 1))) mNil))) mNil)))))
def M_form : Nat → MF
  | 0 => fun _ _ => none
  | j + 1 => mDef 2 4 (mSeq (M_form_1 (M_form j))
      (mSeq (M_form_2 (M_form j))
      (mSeq (M_form_3 (M_form j))
      (M_form_4 (M_form j)))))
def M_near_0 (r : MF) : MS := (mRet (mOp fLeI (mCb fAbs (mCons (mOp fSub (mVar 1) (mVar 2)) mNil)) (mOp fIx (mVar 0) (mC (.int 1)))))
def M_near_1 (r : MF) : MS := (mIfS (mB (mOp (fEq false) (mOp fIx (mVar 0) (mC (.int 0))) (mC (.str "by")))) (M_near_0 r) mNx)
def M_near_2 (r : MF) : MS := (mSet 3 (mOp fMul (mCb fAbs (mCons (mOp fSub (mVar 1) (mVar 2)) mNil)) (mOp fIx (mVar 0) (mC (.int 2)))))
def M_near_3 (r : MF) : MS := (mRet (mOr (mOp fLeI (mVar 3) (mOp fMul (mOp fIx (mVar 0) (mC (.int 1))) (mCb fAbs (mCons (mVar 1) mNil)))) (mOp fLeI (mVar 3) (mOp fMul (mOp fIx (mVar 0) (mC (.int 1))) (mCb fAbs (mCons (mVar 2) mNil))))))
def M_near_4 (r : MF) : MS := (mIfS (mB (mOp (fEq false) (mOp fIx (mVar 0) (mC (.int 0))) (mC (.str "part")))) (mSeq (M_near_2 r)
  (M_near_3 r)) mNx)
def M_near_5 (r : MF) : MS := (mSet 4 (mOp fDiv (mOp fSub (mVar 1) (mOp fIx (mVar 0) (mC (.int 2)))) (mOp fIx (mVar 0) (mC (.int 1)))))
def M_near_6 (r : MF) : MS := (mRet (mOp (fEq false) (mVar 4) (mOp fDiv (mOp fSub (mVar 2) (mOp fIx (mVar 0) (mC (.int 2)))) (mOp fIx (mVar 0) (mC (.int 1))))))
def M_near_7 (r : MF) : MS := (mIfS (mB (mOp (fEq false) (mOp fIx (mVar 0) (mC (.int 0))) (mC (.str "cells")))) (mSeq (M_near_5 r)
  (M_near_6 r)) mNx)
def M_near_8 (r : MF) : MS := (mSet 4 (mCall (callX r) (mCons (mOp fIx (mVar 0) (mC (.int 1))) (mCons (mVar 1) (mCons (mVar 2) mNil)))))
def M_near_9 (r : MF) : MS := (mSet 5 (mCall (callX r) (mCons (mOp fIx (mVar 0) (mC (.int 2))) (mCons (mVar 1) (mCons (mVar 2) mNil)))))
def M_near_10 (r : MF) : MS := (mRet (mIf (mB (mOp (fEq false) (mOp fIx (mVar 0) (mC (.int 0))) (mC (.str "|")))) (mOr (mVar 4) (mVar 5)) (mAnd (mVar 4) (mVar 5))))
def M_near : Nat → MF
  | 0 => fun _ _ => none
  | j + 1 => mDef 3 6 (mSeq (M_near_1 (M_near j))
      (mSeq (M_near_4 (M_near j))
      (mSeq (M_near_7 (M_near j))
      (mSeq (M_near_8 (M_near j))
      (mSeq (M_near_9 (M_near j))
      (M_near_10 (M_near j)))))))
end V2
end DL
set_option Elab.async false
set_option linter.all false
set_option maxRecDepth 100000
set_option maxHeartbeats 1000000
namespace DL
namespace V2
open PySem L2
def M_given_0 (sl : MF) : MS := (mRet (mIf (mB (mOp (fEq false) (mCall (callX M_take) (mCons (mVar 0) (mCons (mC (.int 2)) mNil))) (mC (.int 0)))) (mOp fIx (mVar 1) (mC (.int 1))) (mCallK (callX M_Slack_by) 0 1 [0] mNil (mCons (mOp fIx (mVar 1) (mC (.int 1))) mNil))))
def M_given_1 (sl : MF) : MS := (mIfS (mB (mOp (fEq false) (mOp fIx (mVar 1) (mC (.int 0))) (mC (.str "by")))) (M_given_0 sl) mNx)
def M_given_2 (sl : MF) : MS := (mRet (mCallK (callX M_Slack_cells) 0 2 [0, 1] mNil (mCons (mOp fIx (mVar 1) (mC (.int 1))) (mCons (mOp fIx (mVar 1) (mC (.int 2))) mNil))))
def M_given_3 (sl : MF) : MS := (mIfS (mtAnd (mB (mOp (fEq false) (mOp fIx (mVar 1) (mC (.int 0))) (mC (.str "cells")))) (mB (mOp (fEq false) (mCall (callX M_take) (mCons (mVar 0) (mCons (mC (.int 2)) mNil))) (mC (.int 0))))) (M_given_2 sl) mNx)
def M_given_4 (sl : MF) : MS := (mSet 2 (mCall (callX sl) (mCons (mOp fIx (mVar 1) (mC (.int 2))) mNil)))
def M_given_5 (sl : MF) : MS := (mRet (mIf (mB (mOp (fEq false) (mOp fIx (mVar 1) (mC (.int 0))) (mC (.str "|")))) (mOpG (gOr (gII 0 (callX M_Slack_or)) (gOr (gIN 0 (callX M_Slack_or)) (gNI 0 (callX M_Slack_ror)))) (mOp fIx (mOp fIx (mVar 1) (mC (.int 1))) (mC (.int 1))) (mVar 2)) (mOpG (gOr (gII 0 (callX M_Slack_and)) (gOr (gIN 0 (callX M_Slack_and)) (gNI 0 (callX M_Slack_rand)))) (mOp fIx (mOp fIx (mVar 1) (mC (.int 1))) (mC (.int 1))) (mVar 2))))
def M_given_6 (sl : MF) : MS := (mIfS (mtAnd (mB (mOp (fIn false) (mOp fIx (mVar 1) (mC (.int 0))) (mTup (mCons (mC (.str "|")) (mCons (mC (.str "&")) mNil))))) (mtAnd (mB (mOp (fEq false) (mOp fIx (mOp fIx (mVar 1) (mC (.int 1))) (mC (.int 0))) (mC (.str "by")))) (mB (mOp (fEq true) (mOp fIx (mOp fIx (mVar 1) (mC (.int 2))) (mC (.int 0))) (mC (.str "by")))))) (mSeq (M_given_4 sl)
  (M_given_5 sl)) mNx)
def M_given_7 (sl : MF) : MS := (mRet (mCall (callX sl) (mCons (mVar 1) mNil)))
def M_given (sl : MF) : MF := mDef 2 3
  (mSeq (M_given_1 sl)
  (mSeq (M_given_3 sl)
  (mSeq (M_given_6 sl)
  (M_given_7 sl))))
end V2
end DL
set_option Elab.async false
set_option linter.all false
set_option maxRecDepth 100000
set_option maxHeartbeats 1000000

namespace DL
open PySem L2
def M_values_0 : MS := (mPar false true 2 3 (mOp fSub (mCall (callX M_take) (mCons (mVar 0) (mCons (mC (.int 41)) mNil))) (mC (.int 20))) (mLst mNil))
def M_values_1 : MS := (mDrop (mBm fAppend (mVar 3) (mCons (mVar 2) mNil)))
def M_values_2 : MS := (mSet 2 (mOp fAdd (mVar 2) (mCall (callX M_of) (mCons (mVar 0) (mCons (mLst (mCons (mC (.int 0)) (mCons (mC (.int 1)) (mCons (mC (.int 1)) (mCons (mC (.int 2)) (mCons (mC (.int 2)) (mCons (mC (.int 3)) (mCons (mC (.int 4)) (mCons (mC (.int 7)) mNil))))))))) mNil)))))
def M_values_b3 : MS := (mSeq M_values_1
  M_values_2)
def M_values_4 : MS := (mFor (mItR1 (mCons (mCall (callX M_take) (mCons (mVar 0) (mCons (mOp fAdd (mVar 1) (mC (.int 1))) mNil))) mNil)) (tgName 4) M_values_b3)
def M_values_5 : MS := (mRet (mCb fTuple (mCons (mCall (callV [false, true, false] M_pick) (mCons (mVar 0) (mCons (mVar 3) (mCons (mCb fLen (mCons (mVar 3) mNil)) mNil)))) mNil)))
def M_values : MF := mDef 2 5
  (mSeq M_values_0
  (mSeq M_values_4
  M_values_5))
end DL
set_option Elab.async false
set_option linter.all false
set_option maxRecDepth 100000
set_option maxHeartbeats 1000000

namespace DL
open PySem L2
theorem lcWf {gd : Mu → Bool} {t : TGT} {mt : MT} {me : ME} {δ : Sl} {μ : Mu} {β : Type} {w g : β → D} {p : β → Bool} (hg : gd μ = true) : ∀ (xs : List β) (acc : List D), acc.length + xs.length ≤ 100000 →
    (∀ x ∈ xs, ∃ δ1, t (w x) δ = some δ1 ∧ mt δ1 μ = some (p x, μ) ∧ (p x = true → ∃ r, me δ1 μ = some (r, μ) ∧ toD r = some (g x))) → lcLoop gd t mt me δ (xs.map w) acc μ = some (acc ++ (xs.filter p).map g, μ)
  | [], acc, _, _ => by simp [lcLoop, hg]
  | x :: xs, acc, hl, h => by
    obtain ⟨δ1, h1, h2, h3⟩ := h x List.mem_cons_self
    rw [List.length_cons] at hl
    rw [List.map_cons]
    cases hp : p x with
    | false =>
      have e := lcWf hg (t := t) (mt := mt) (me := me) (δ := δ) (g := g) xs acc (by omega) fun y hy => h y (List.mem_cons_of_mem _ hy)
      rw [hp] at h2
      simp only [lcLoop, hg, if_true, h1, h2]
      rw [e, List.filter_cons_of_neg (by rw [hp]; exact Bool.noConfusion)]
    | true =>
      obtain ⟨r, h4, h5⟩ := h3 hp
      have e := lcWf hg (t := t) (mt := mt) (me := me) (δ := δ) (g := g) xs (acc ++ [g x]) (by rw [List.length_append]; simp; omega) fun y hy => h y (List.mem_cons_of_mem _ hy)
      rw [hp] at h2
      have hl2 : acc.length < 100000 := by omega
      simp only [lcLoop, hg, if_true, h1, h2, h4, h5, hl2]
      rw [e, List.filter_cons_of_pos hp, List.append_assoc]
      rfl
theorem lcW {gd : Mu → Bool} {t : TGT} {me : ME} {δ : Sl} {μ : Mu} {β : Type} {w g : β → D} (hg : gd μ = true) (xs : List β) (hl : xs.length ≤ 100000)
    (h : ∀ x ∈ xs, ∃ δ1, t (w x) δ = some δ1 ∧ ∃ r, me δ1 μ = some (r, μ) ∧ toD r = some (g x)) : lcLoop gd t mYes me δ (xs.map w) [] μ = some (xs.map g, μ) := by
  have := lcWf (t := t) (mt := mYes) (me := me) (δ := δ) (p := fun _ => true) (g := g) hg xs [] (by simpa using hl) fun x hx => by
    obtain ⟨δ1, h1, h2⟩ := h x hx
    exact ⟨δ1, h1, rfl, fun _ => h2⟩
  rw [this, List.nil_append, List.filter_eq_self.mpr (fun _ _ => rfl)]
theorem in_ints {i : Int} {ns : List Int} {neg k : Bool} {μ : Mu} : fIn neg (.dat (.int i)) (.dat (sqD k (ns.map D.int))) μ = some (.dat (.bl (xor neg (decide (i ∈ ns))))) := by
  have e1 : (ns.map D.int).all flat1 = true := by
    rw [List.all_map]
    exact List.all_eq_true.mpr fun _ _ => rfl
  have e2 : ((ns.map D.int).any fun y => eqF y (.int i)) = decide (i ∈ ns) := by
    rw [List.any_map, Bool.eq_iff_iff, List.any_eq_true, decide_eq_true_iff]
    constructor
    · rintro ⟨x, hx, h⟩
      have h : (x == i) = true := h
      rw [beq_iff_eq] at h
      rw [← h]
      exact hx
    · intro h
      exact ⟨i, h, by show (i == i) = true; exact beq_self_eq_true i⟩
  have sq : ∃ q : Sq, sqOf (.dat (sqD k (ns.map D.int))) μ = some q ∧ q.all = ns.map D.int := by
    cases k
    · exact ⟨.l (ns.map D.int), rfl, rfl⟩
    · exact ⟨.t (ns.map D.int), rfl, rfl⟩
  obtain ⟨q, h1, h2⟩ := sq
  unfold fIn
  dsimp only
  rw [h1]
  dsimp only
  rw [h2, e1, e2]
  cases neg <;> simp [flat1]
section
variable {k : Bool} {ns is : List Int} {f : Fo} {d : D} {μ : Mu}
end
section
variable {ma mb mc m : ME} {ms mk : MA} {δ δ1 δ2 δ3 : Sl} {μ μ1 μ2 μ3 μ4 μ5 μ6 : Mu} {x y z : R} {d1 d2 d3 : D} {xs : List D} {i j l n : Nat} {ci cj cl' : Bool} {rs zs : List R} {f : Fo} {a b v : Int}
theorem par_g (h1 : ma δ μ = some (x, μ1)) (h2 : mb δ μ1 = some (y, μ2)) (h3 : stR ci i x δ μ2 = some (δ1, μ3)) (h4 : stR cj j y δ1 μ3 = some (δ2, μ4)) : mPar ci cj i j ma mb δ μ = some (.nx δ2 μ4) := by
  unfold mPar
  rw [h1]
  dsimp only
  rw [h2]
  dsimp only
  rw [h3]
  dsimp only
  rw [h4]
theorem tup_eq {ds : List D} (h : ms δ μ = some (rs, μ1)) (h2 : allD rs = some ds) (h3 : ds.length ≤ 100000) : mTup ms δ μ = some (.dat (.tup ds), μ1) := by
  unfold mTup
  rw [h]
  dsimp only
  rw [h2]
  dsimp only
  rw [if_pos h3]
end
theorem eq_ints {neg : Bool} {l l' : List Int} {μ : Mu} : fEq neg (.dat (.lst (l.map D.int))) (.dat (.lst (l'.map D.int))) μ = some (.dat (.bl (xor neg (decide (l = l'))))) := by
  have ok : ∀ l : List Int, okE 1 (.lst (l.map D.int)) = true := fun l => by
    show (l.map D.int).all (okE 0) = true
    rw [List.all_map]
    exact List.all_eq_true.mpr fun _ _ => rfl
  rw [feq_ok (n := 1) (by omega) neg (ok l) (ok l') μ]
  have e : beqD (.lst (l.map D.int)) (.lst (l'.map D.int)) = decide (l = l') := by
    rw [Bool.eq_iff_iff, beqD_iff, decide_eq_true_iff]
    constructor
    · intro h
      injection h with h
      exact (List.map_inj_right fun a b h => by injection h).mp h
    · intro h
      rw [h]
  rw [e]
end DL
set_option Elab.async false
set_option linter.all false
set_option maxRecDepth 100000
set_option maxHeartbeats 1000000

namespace DL
open PySem L2
def wE (m : ME) (δ : Sl) (μ : Mu) (Q : R → Mu → Prop) : Prop := ∃ r μ', m δ μ = some (r, μ') ∧ Q r μ'
def wT (m : MT) (δ : Sl) (μ : Mu) (Q : Bool → Mu → Prop) : Prop := ∃ r μ', m δ μ = some (r, μ') ∧ Q r μ'
def wA (m : MA) (δ : Sl) (μ : Mu) (Q : List R → Mu → Prop) : Prop := ∃ r μ', m δ μ = some (r, μ') ∧ Q r μ'
def wF (m : MF) (rs : List R) (μ : Mu) (Q : R → Mu → Prop) : Prop := ∃ r μ', m rs μ = some (r, μ') ∧ Q r μ'
def wS (m : MS) (δ : Sl) (μ : Mu) (Q : Flo → Prop) : Prop := ∃ fl, m δ μ = some fl ∧ Q fl
def wI (m : MI) (δ : Sl) (μ : Mu) (Q : List D → (Mu → Bool) → Mu → Prop) : Prop := ∃ xs gd μ', m δ μ = some (xs, gd, μ') ∧ Q xs gd μ'
def wO (m : MO) (δ : Sl) (μ : Mu) (Q : Option Int → Mu → Prop) : Prop := ∃ o μ', m δ μ = some (o, μ') ∧ Q o μ'
def wL (gd : Mu → Bool) (t : TGT) (mb : MS) (xs : List D) (δ : Sl) (μ : Mu) (Q : Flo → Prop) : Prop := ∃ fl, loop gd t mb xs δ μ = some fl ∧ Q fl
def wLc (gd : Mu → Bool) (t : TGT) (mt : MT) (me : ME) (δ : Sl) (xs : List D) (μ : Mu) (Q : List D → Mu → Prop) : Prop := ∃ ys μ', lcLoop gd t mt me δ xs [] μ = some (ys, μ') ∧ Q ys μ'
def oK {β : Type} (o : Option β) (k : β → Prop) : Prop := ∃ z, o = some z ∧ k z
def cnd (b : Bool) (A B : Prop) : Prop := (b = true → A) ∧ (b = false → B)
def sqK (k : Sl → Mu → Prop) (Q : Flo → Prop) : Flo → Prop
  | .nx δ μ => k δ μ
  | fl => Q fl
section
variable {m ma mb mc mo : ME} {mt mu : MT} {ms mk : MA} {m1 m2 : MS} {δ δ1 : Sl} {μ μ1 μ2 : Mu} {Q : R → Mu → Prop} {QT : Bool → Mu → Prop} {QA : List R → Mu → Prop} {QS : Flo → Prop} {QI : List D → (Mu → Bool) → Mu → Prop} {QO : Option Int → Mu → Prop} {f : MF} {i j l : Nat} {d : D} {r : R} {rs : List R} {A B : Prop} {k : Bool}
theorem cnd_true (h : A) : cnd true A B := ⟨fun _ => h, fun z => by cases z⟩
theorem cnd_false (h : B) : cnd false A B := ⟨fun z => (by cases z), fun _ => h⟩
theorem cnd_pos (e : k = true) (h : A) : cnd k A B := ⟨fun _ => h, fun z => by rw [e] at z; cases z⟩
theorem cnd_neg (e : k = false) (h : B) : cnd k A B := ⟨fun z => (by rw [e] at z; cases z), fun _ => h⟩
theorem cnd_not (h : cnd k B A) : cnd (!k) A B := ⟨fun z => h.2 (by cases k <;> simp_all), fun z => h.1 (by cases k <;> simp_all)⟩
theorem oK_some {β : Type} {o : Option β} {K : β → Prop} {z : β} (h : o = some z) (h2 : K z) : oK o K := ⟨z, h, h2⟩

theorem wS_seq (h : wS m1 δ μ (sqK (fun δ' μ' => wS m2 δ' μ' QS) QS)) : wS (mSeq m1 m2) δ μ QS := by
  obtain ⟨fl, h1, h2⟩ := h
  cases fl with
  | nx δ' μ' =>
    obtain ⟨fl2, g1, g2⟩ := h2
    exact ⟨fl2, (seq_nx h1).trans g1, g2⟩
  | rt r μ' => exact ⟨_, by unfold mSeq; rw [h1], h2⟩
  | bk δ' μ' => exact ⟨_, by unfold mSeq; rw [h1], h2⟩
  | ct δ' μ' => exact ⟨_, by unfold mSeq; rw [h1], h2⟩
theorem sqK_nx {K : Sl → Mu → Prop} (h : K δ μ) : sqK K QS (.nx δ μ) := h
theorem sqK_rt {K : Sl → Mu → Prop} (h : QS (.rt r μ)) : sqK K QS (.rt r μ) := h
theorem wS_nx (h : QS (.nx δ μ)) : wS mNx δ μ QS := ⟨_, rfl, h⟩
theorem wS_ret (h : wE m δ μ fun r μ' => QS (.rt r μ')) : wS (mRet m) δ μ QS := by
  obtain ⟨r, μ', h1, h2⟩ := h
  exact ⟨_, ret_eq h1, h2⟩
theorem wS_if (h : wT mt δ μ fun b μ' => cnd b (wS m1 δ μ' QS) (wS m2 δ μ' QS)) : wS (mIfS mt m1 m2) δ μ QS := by
  obtain ⟨b, μ', h1, h2⟩ := h
  cases b with
  | true =>
    obtain ⟨fl, g1, g2⟩ := h2.1 rfl
    exact ⟨fl, ifT_eq h1 g1, g2⟩
  | false =>
    obtain ⟨fl, g1, g2⟩ := h2.2 rfl
    exact ⟨fl, ifF_eq h1 g1, g2⟩
def stK (c : Bool) (i : Nat) (r : R) (δ : Sl) (μ : Mu) (K : Sl → Mu → Prop) : Prop := ∃ δ1 μ1, stR c i r δ μ = some (δ1, μ1) ∧ K δ1 μ1
theorem stK_dat {K : Sl → Mu → Prop} (h : K (δ.set i (.dat d)) μ) : stK false i (.dat d) δ μ K := ⟨_, _, rfl, h⟩
theorem stK_fr {K : Sl → Mu → Prop} {xs : List D} (h : K (δ.set i (.dat (.lst xs))) μ) : stK false i (.fr xs) δ μ K := ⟨_, _, rfl, h⟩
theorem wS_set (h : wE m δ μ fun r μ' => stK false i r δ μ' fun δ1 μ1 => QS (.nx δ1 μ1)) : wS (mSet i m) δ μ QS := by
  obtain ⟨r, μ', h1, δ1, μ1, h2, h3⟩ := h
  refine ⟨_, ?_, h3⟩
  unfold mSet
  rw [h1]
  simp only [stR] at h2
  dsimp only
  cases e : putR i r δ with
  | none =>
    rw [e] at h2
    cases h2
  | some δ2 =>
    rw [e] at h2
    cases h2
    rfl
theorem wS_par {ci cj : Bool} (h : wE ma δ μ fun x μ1 => wE mb δ μ1 fun y μ2 => stK ci i x δ μ2 fun δ1 μ3 => stK cj j y δ1 μ3 fun δ2 μ4 => QS (.nx δ2 μ4)) : wS (mPar ci cj i j ma mb) δ μ QS := by
  obtain ⟨x, μ1, h1, y, μ2, h2, δ1, μ3, h3, δ2, μ4, h4, h5⟩ := h
  exact ⟨_, par_g h1 h2 h3 h4, h5⟩
def dK (r : R) (k : D → Prop) : Prop := ∃ d, toD r = some d ∧ k d
theorem wS_for {mi : MI} {t : TGT} (h : wI mi δ μ fun xs gd μ' => wL gd t m1 xs δ μ' QS) : wS (mFor mi t m1) δ μ QS := by
  obtain ⟨xs, gd, μ', h1, fl, h2, h3⟩ := h
  exact ⟨fl, for_eq h1 h2, h3⟩

def vK (δ : Sl) (i : Nat) (μ : Mu) (Q : R → Mu → Prop) : Prop := wE (mVar i) δ μ Q
theorem wE_var (h : vK δ i μ Q) : wE (mVar i) δ μ Q := h
theorem vK_dat (h : δ[i]? = some (.dat d)) (q : Q (.dat d) μ) : vK δ i μ Q := ⟨_, _, by unfold mVar; rw [h], q⟩
theorem vK_cel {n : Nat} (h : δ[i]? = some (.cel n)) (q : Q (.cel n) μ) : vK δ i μ Q := ⟨_, _, by unfold mVar; rw [h], q⟩
theorem wE_c (q : Q (.dat d) μ) : wE (mC d) δ μ Q := ⟨_, _, rfl, q⟩
theorem wE_op {g : R → R → Mu → Option R} (h : wE ma δ μ fun x μ1 => wE mb δ μ1 fun y μ2 => oK (g x y μ2) fun z => Q z μ2) : wE (mOp g ma mb) δ μ Q := by
  obtain ⟨x, μ1, h1, y, μ2, h2, z, h3, h4⟩ := h
  exact ⟨z, μ2, mop_eq h1 h2 h3, h4⟩
def bK (r : R) (k : Bool → Prop) : Prop := ∃ b, r = .dat (.bl b) ∧ k b
theorem bK_bl {K : Bool → Prop} {b : Bool} (h : K b) : bK (.dat (.bl b)) K := ⟨_, rfl, h⟩
def iK (r : R) (k : Int → Prop) : Prop := ∃ b, r = .dat (.int b) ∧ k b
theorem wE_if (h : wT mt δ μ fun b μ' => cnd b (wE ma δ μ' Q) (wE mb δ μ' Q)) : wE (mIf mt ma mb) δ μ Q := by
  obtain ⟨b, μ', h1, h2⟩ := h
  cases b with
  | true =>
    obtain ⟨r, μ2, g1, g2⟩ := h2.1 rfl
    exact ⟨r, μ2, by simp only [mIf, h1, g1], g2⟩
  | false =>
    obtain ⟨r, μ2, g1, g2⟩ := h2.2 rfl
    exact ⟨r, μ2, by simp only [mIf, h1, g1], g2⟩
theorem wT_b (h : wE m δ μ fun r μ' => bK r fun b => QT b μ') : wT (mB m) δ μ QT := by
  obtain ⟨r, μ', h1, x, rfl, h2⟩ := h
  exact ⟨_, μ', b_eq h1, h2⟩
theorem wT_not (h : wT mt δ μ fun b μ' => QT (!b) μ') : wT (mtNot mt) δ μ QT := by
  obtain ⟨r, μ', h1, h2⟩ := h
  exact ⟨_, μ', not_eq h1, h2⟩
theorem wT_and (h : wT mt δ μ fun b μ' => cnd b (wT mu δ μ' QT) (QT false μ')) : wT (mtAnd mt mu) δ μ QT := by
  obtain ⟨b, μ', h1, h2⟩ := h
  cases b with
  | false => exact ⟨false, μ', by simp only [mtAnd, h1], h2.2 rfl⟩
  | true =>
    obtain ⟨r, μ2, g1, g2⟩ := h2.1 rfl
    exact ⟨r, μ2, by simp only [mtAnd, h1, g1], g2⟩
def aK (r : R) (k : R → Prop) : Prop := (∀ c, r ≠ .fc c) ∧ k (froz r)
theorem aK_dat {K : R → Prop} (h : K (.dat d)) : aK (.dat d) K := ⟨fun _ z => (by cases z), h⟩
theorem aK_fr {K : R → Prop} {xs : List D} (h : K (.dat (.lst xs))) : aK (.fr xs) K := ⟨fun _ z => (by cases z), h⟩
theorem aK_cel {K : R → Prop} {n : Nat} (h : K (.cel n)) : aK (.cel n) K := ⟨fun _ z => (by cases z), h⟩
theorem wA_nil (h : QA [] μ) : wA mNil δ μ QA := ⟨_, _, rfl, h⟩
theorem wA_cons (h : wE m δ μ fun r μ' => aK r fun r' => wA ms δ μ' fun rs μ2 => QA (r' :: rs) μ2) : wA (mCons m ms) δ μ QA := by
  obtain ⟨r, μ', h1, hf, rs, μ2, h2, h3⟩ := h
  exact ⟨_, μ2, cons_eq hf h1 h2, h3⟩
theorem wE_tup (h : wA ms δ μ fun rs μ' => oK (allD rs) fun ds => ds.length ≤ 100000 ∧ Q (.dat (.tup ds)) μ') : wE (mTup ms) δ μ Q := by
  obtain ⟨rs, μ', h1, ds, h2, h3, h4⟩ := h
  exact ⟨_, μ', tup_eq h1 h2 h3, h4⟩
theorem wE_lst (h : wA ms δ μ fun rs μ' => oK (allD rs) fun ds => ds.length ≤ 100000 ∧ Q (.fr ds) μ') : wE (mLst ms) δ μ Q := by
  obtain ⟨rs, μ', h1, ds, h2, h3, h4⟩ := h
  exact ⟨_, μ', lst_eq h1 h2 h3, h4⟩
theorem wE_cb {g : List R → Mu → Option R} (h : wA ms δ μ fun rs μ' => oK (g rs μ') fun z => Q z μ') : wE (mCb g ms) δ μ Q := by
  obtain ⟨rs, μ', h1, z, h2, h3⟩ := h
  exact ⟨z, μ', cb_eq h1 h2, h3⟩
theorem wE_call (h : wA ms δ μ fun rs μ' => wF f rs μ' Q) : wE (mCall f ms) δ μ Q := by
  obtain ⟨rs, μ', h1, r, μ2, h2, h3⟩ := h
  exact ⟨r, μ2, call_eq h1 h2, h3⟩
@[simp] def isIns (c : Nat) : R → Bool
  | .dat (.ins c' _) => c' == c
  | _ => false
theorem wF_0 (h : f rs [] = some (r, [])) (hc : cellsIn rs = []) (hp : plainR r = true) (q : Q r μ) : wF (callX f) rs μ Q := by
  refine ⟨r, μ, ?_, q⟩
  unfold callX
  rw [hc]
  dsimp only
  rw [h]
  dsimp only
  rw [if_pos hp]
theorem wF_1 {b b' : List D} {n : Nat} (h : f (reCel rs) [.l b] = some (r, [.l b'])) (hc : cellsIn rs = [n]) (hn : μ[n]? = some (.l b)) (hp : plainR r = true) (q : Q r (μ.set n (.l b'))) : wF (callX f) rs μ Q := ⟨r, _, callX1 (ν := []) hc hn h hp, q⟩
theorem reCel_none : ∀ {rs : List R}, cellsIn rs = [] → reCel rs = rs
  | [], _ => rfl
  | .cel _ :: _, h => by cases h
  | .dat d :: rs, h => by
    show R.dat d :: reCel rs = _
    rw [reCel_none (rs := rs) h]
  | .no :: rs, h => by
    show R.no :: reCel rs = _
    rw [reCel_none (rs := rs) h]
  | .fr xs :: rs, h => by
    show R.fr xs :: reCel rs = _
    rw [reCel_none (rs := rs) h]
  | .fc c :: rs, h => by
    show R.fc c :: reCel rs = _
    rw [reCel_none (rs := rs) h]
theorem wF_box {b b' : List D} {n : Nat} {rest : List R} (h : f (.cel 0 :: rest) [.l b] = some (r, [.l b'])) (hc : cellsIn rest = []) (hn : μ[n]? = some (.l b)) (hp : plainR r = true) (q : Q r (μ.set n (.l b'))) : wF (callX f) (.cel n :: rest) μ Q := by
  refine wF_1 (b := b) (b' := b') (n := n) ?_ (by show n :: cellsIn rest = [n]; rw [hc]) hn hp q
  show f (.cel 0 :: reCel rest) [.l b] = _
  rw [reCel_none hc]
  exact h
def itK (r : R) (μ : Mu) (k : List D → (Mu → Bool) → Prop) : Prop := ∃ xs gd, mIt (fun _ μ => some (r, μ)) [] μ = some (xs, gd, μ) ∧ k xs gd
theorem wI_it (h : wE m δ μ fun r μ' => itK r μ' fun xs gd => QI xs gd μ') : wI (mIt m) δ μ QI := by
  obtain ⟨r, μ', h1, xs, gd, h2, h3⟩ := h
  refine ⟨xs, gd, μ', ?_, h3⟩
  simp only [mIt, mItL, mItT, h1] at h2 ⊢
  exact h2
theorem itK_lst {K : List D → (Mu → Bool) → Prop} {xs : List D} (h : K xs yes) : itK (.dat (.lst xs)) μ K := ⟨xs, yes, rfl, h⟩
theorem itK_fr {K : List D → (Mu → Bool) → Prop} {xs : List D} (h : K xs yes) : itK (.fr xs) μ K := ⟨xs, yes, rfl, h⟩
theorem wI_r1 (h : wA ms δ μ fun rs μ' => ∃ n, rs = [.dat (.int n)] ∧ (-1000000 ≤ n ∧ n ≤ 1000000) ∧ QI (rgD 0 n) yes μ') : wI (mItR1 ms) δ μ QI := by
  obtain ⟨rs, μ', h1, n, rfl, h2, h3⟩ := h
  exact ⟨_, _, μ', itR1_eq h1 h2.1 h2.2, h3⟩
theorem wI_r2 (h : wA ms δ μ fun rs μ' => ∃ a n, rs = [.dat (.int a), .dat (.int n)] ∧ (-1000000 ≤ a ∧ a ≤ 1000000 ∧ -1000000 ≤ n ∧ n ≤ 1000000) ∧ QI (rgD a n) yes μ') : wI (mItR2 ms) δ μ QI := by
  obtain ⟨rs, μ', h1, a, n, rfl, h2, h3⟩ := h
  exact ⟨_, _, μ', itR2_eq h1 h2.1 h2.2.1 h2.2.2.1 h2.2.2.2, h3⟩
theorem wE_lc {mi : MI} {t : TGT} {me : ME} {vs : List Nat} (h : wI mi δ μ fun xs gd μ' => wLc gd t mt me (wipeR δ vs) xs μ' fun ys μ2 => Q (.fr ys) μ2) : wE (mLc mi t mt me vs) δ μ Q := by
  obtain ⟨xs, gd, μ', h1, ys, μ2, h2, h3⟩ := h
  exact ⟨_, _, lc_eq h1 h2, h3⟩
/-- a comprehension over things that stand for data; the state stays -/
theorem wLc_filter {gd : Mu → Bool} {t : TGT} {mt : MT} {me : ME} {β : Type} {w g : β → D} {p : β → Bool} {xs : List β} {QL : List D → Mu → Prop} (hg : gd μ = true) (hl : xs.length ≤ 100000)
    (h : ∀ x ∈ xs, oK (t (w x) δ) fun δ1 => wT mt δ1 μ fun b μ1 => μ1 = μ ∧ b = p x ∧ (p x = true → wE me δ1 μ fun r μ2 => μ2 = μ ∧ toD r = some (g x))) (q : QL ((xs.filter p).map g) μ) : wLc gd t mt me δ (xs.map w) μ QL := by
  refine ⟨_, μ, ?_, q⟩
  have := lcWf (gd := gd) (t := t) (mt := mt) (me := me) (δ := δ) (μ := μ) (w := w) (g := g) (p := p) hg xs [] (by simpa using hl) fun x hx => by
    obtain ⟨δ1, h1, b, μ1, h2, rfl, rfl, h3⟩ := h x hx
    refine ⟨δ1, h1, h2, fun z => ?_⟩
    obtain ⟨r, μ2, g1, rfl, g2⟩ := h3 z
    exact ⟨r, g1, g2⟩
  simpa using this
theorem wLc_map {gd : Mu → Bool} {t : TGT} {me : ME} {β : Type} {w g : β → D} {xs : List β} {QL : List D → Mu → Prop} (hg : gd μ = true) (hl : xs.length ≤ 100000)
    (h : ∀ x ∈ xs, oK (t (w x) δ) fun δ1 => wE me δ1 μ fun r μ2 => μ2 = μ ∧ toD r = some (g x)) (q : QL (xs.map g) μ) : wLc gd t mYes me δ (xs.map w) μ QL := by
  refine ⟨_, μ, lcW hg xs hl fun x hx => ?_, q⟩
  obtain ⟨δ1, h1, r, μ2, g1, rfl, g2⟩ := h x hx
  exact ⟨δ1, h1, r, g1, g2⟩
/-- a loop by what holds ahead of the i-th item -/
theorem wL_inv {gd : Mu → Bool} {t : TGT} {mb : MS} {β : Type} {w : β → D} (I : List β → Sl → Mu → Prop) {xs : List β} (h0 : I xs δ μ)
    (hs : ∀ x ys δ μ, I (x :: ys) δ μ → gd μ = true ∧ oK (t (w x) δ) fun δ1 => wS mb δ1 μ fun fl => match fl with
      | .nx δ' μ' => I ys δ' μ'
      | .ct δ' μ' => I ys δ' μ'
      | .bk δ' μ' => QS (.nx δ' μ')
      | .rt r μ' => QS (.rt r μ'))
    (hQ : ∀ δ μ, I [] δ μ → gd μ = true ∧ QS (.nx δ μ)) : wL gd t mb (xs.map w) δ μ QS := by
  induction xs generalizing δ μ with
  | nil =>
    obtain ⟨h1, h2⟩ := hQ δ μ h0
    exact ⟨_, by simp [loop, h1], h2⟩
  | cons x xs ih =>
    obtain ⟨h1, δ1, h2, fl, h3, h4⟩ := hs x xs δ μ h0
    cases fl with
    | nx δ' μ' =>
      obtain ⟨fl, g1, g2⟩ := ih h4
      exact ⟨fl, by simp only [List.map_cons, loop, h1, h2, h3, if_true]; exact g1, g2⟩
    | ct δ' μ' =>
      obtain ⟨fl, g1, g2⟩ := ih h4
      exact ⟨fl, by simp only [List.map_cons, loop, h1, h2, h3, if_true]; exact g1, g2⟩
    | bk δ' μ' => exact ⟨_, by simp only [List.map_cons, loop, h1, h2, h3, if_true], h4⟩
    | rt r μ' => exact ⟨_, by simp only [List.map_cons, loop, h1, h2, h3, if_true], h4⟩

@[simp] def retF (n : Nat) : Flo → Option (R × Mu)
  | .rt r μ => retR n r μ
  | .nx _ μ => retR n (.dat .non) μ
  | _ => none
theorem fn_of {n N : Nat} {body : MS} {z : R × Mu} (hl : rs.length = n) (h : wS body (rs ++ List.replicate (N - n) .no) μ fun fl => retF μ.length fl = some z) : mDef n N body rs μ = some z := by
  obtain ⟨fl, h1, h2⟩ := h
  unfold mDef
  rw [if_pos hl, h1]
  cases fl with
  | rt r μ' => exact h2
  | nx δ' μ' => exact h2
  | bk δ' μ' => cases h2
  | ct δ' μ' => cases h2
theorem fn_wp {n N : Nat} {body : MS} (hl : rs.length = n) (h : wS body (rs ++ List.replicate (N - n) .no) μ fun fl => oK (retF μ.length fl) fun z => Q z.1 z.2) : wF (mDef n N body) rs μ Q := by
  obtain ⟨fl, h1, z, h2, h3⟩ := h
  exact ⟨z.1, z.2, fn_of hl ⟨fl, h1, h2⟩, h3⟩
section
variable {a b : Int} {K : R → Prop}
theorem op_sub' (h : K (.dat (.int (a - b)))) : oK (fSub (.dat (.int a)) (.dat (.int b)) μ) K := ⟨_, rfl, h⟩
theorem op_add' (h : K (.dat (.int (a + b)))) : oK (fAdd (.dat (.int a)) (.dat (.int b)) μ) K := ⟨_, rfl, h⟩
theorem op_div' (h0 : 0 < b) (h1 : b < 1073741824) (h : K (.dat (.int (a / b)))) : oK (fDiv (.dat (.int a)) (.dat (.int b)) μ) K := ⟨_, by simp [h0, h1], h⟩
theorem op_mod' (h0 : 0 < b) (h : K (.dat (.int (a % b)))) : oK (fMod (.dat (.int a)) (.dat (.int b)) μ) K := ⟨_, by simp [h0], h⟩
theorem op_mul' (hc : cMul a b = true) (h : K (.dat (.int (a * b)))) : oK (fMul (.dat (.int a)) (.dat (.int b)) μ) K := ⟨_, by simp [hc], h⟩
theorem op_eqi' (h : K (.dat (.bl (decide (a = b))))) : oK (fEq false (.dat (.int a)) (.dat (.int b)) μ) K := ⟨_, by simp [fEq], h⟩
theorem op_nei' (h : K (.dat (.bl (!decide (a = b))))) : oK (fEq true (.dat (.int a)) (.dat (.int b)) μ) K := ⟨_, by simp [fEq], h⟩
theorem cb_len_lst {xs : List D} (h : K (.dat (.int (xs.length : Int)))) : oK (fLen [.dat (.lst xs)] μ) K := ⟨_, fLen_lst rfl μ, h⟩
theorem cb_int {x : Int} (h : K (.dat (.int x))) : oK (fInt [.dat (.int x)] μ) K := ⟨_, rfl, h⟩
end
end
end DL
set_option Elab.async false
set_option linter.all false
set_option maxRecDepth 100000
set_option maxHeartbeats 1000000
local macro_rules | `(tactic| bv_omega) => `(tactic| first
  | (with_reducible refine DL.fn_of rfl ?_; dsimp only [List.cons_append, List.nil_append, List.reduceReplicate, Nat.reduceSub]; bv_omega)
  | (with_reducible refine DL.wS_seq ?_; bv_omega)
  | (with_reducible refine DL.sqK_nx ?_; bv_omega)
  | (with_reducible refine DL.sqK_rt ?_; bv_omega)
  | (with_reducible refine DL.wS_ret ?_; bv_omega)
  | (with_reducible refine DL.wS_if ?_; bv_omega)
  | (with_reducible refine DL.wS_set ?_; bv_omega)
  | (with_reducible refine DL.wS_setC ?_; bv_omega)
  | (with_reducible refine DL.wS_par ?_; bv_omega)
  | (with_reducible refine DL.wS_par3 ?_; bv_omega)
  | (with_reducible refine DL.wS_asg ?_; bv_omega)
  | (with_reducible refine DL.wS_drop ?_; bv_omega)
  | (with_reducible refine DL.wS_for ?_; bv_omega)
  | (with_reducible refine DL.wS_nx ?_; bv_omega)
  | (with_reducible refine DL.wS_bk ?_; bv_omega)
  | (with_reducible refine DL.wS_ct ?_; bv_omega)
  | (with_reducible refine DL.stK_dat ?_; try dsimp only [List.set_cons_zero, List.set_cons_succ]; bv_omega)
  | (with_reducible refine DL.stK_fr ?_; try dsimp only [List.set_cons_zero, List.set_cons_succ]; bv_omega)
  | (with_reducible refine DL.stK_cel ?_; try dsimp only [List.set_cons_zero, List.set_cons_succ]; bv_omega)
  | (with_reducible refine DL.stK_new ?_; try dsimp only [List.set_cons_zero, List.set_cons_succ, List.length_cons, List.length_nil, List.cons_append, List.nil_append, Nat.zero_add, Nat.reduceAdd]; bv_omega)
  | (with_reducible refine DL.wE_var ?_; (first | refine DL.vK_dat rfl ?_ | refine DL.vK_cel rfl ?_); bv_omega)
  | (with_reducible refine DL.wE_c ?_; bv_omega)
  | (with_reducible refine DL.wE_op ?_; bv_omega)
  | (with_reducible refine DL.wE_un ?_; bv_omega)
  | (with_reducible refine DL.wE_not ?_; bv_omega)
  | (with_reducible refine DL.wE_if ?_; bv_omega)
  | (with_reducible refine DL.wE_or ?_; bv_omega)
  | (with_reducible refine DL.wE_and ?_; bv_omega)
  | (with_reducible refine DL.wE_tup ?_; bv_omega)
  | (with_reducible refine DL.wE_lst ?_; bv_omega)
  | (with_reducible refine DL.wE_cb ?_; bv_omega)
  | (with_reducible refine DL.wE_call ?_; bv_omega)
  | (with_reducible refine DL.wE_callK ?_; bv_omega)
  | (with_reducible refine DL.wE_meth ?_; bv_omega)
  | (with_reducible refine DL.wE_methK ?_; bv_omega)
  | (with_reducible refine DL.wE_lc ?_; bv_omega)
  | (with_reducible refine DL.wE_bm ?_; bv_omega)
  | (with_reducible refine DL.wT_b ?_; bv_omega)
  | (with_reducible refine DL.wT_not ?_; bv_omega)
  | (with_reducible refine DL.wT_and ?_; bv_omega)
  | (with_reducible refine DL.wT_or ?_; bv_omega)
  | (with_reducible refine DL.wA_nil ?_; bv_omega)
  | (with_reducible refine DL.wA_cons ?_; bv_omega)
  | (with_reducible refine DL.aK_dat ?_; bv_omega)
  | (with_reducible refine DL.aK_fr ?_; bv_omega)
  | (with_reducible refine DL.aK_cel ?_; bv_omega)
  | (with_reducible refine DL.bK_bl ?_; bv_omega)
  | (with_reducible refine DL.dK_dat ?_; bv_omega)
  | (with_reducible refine DL.dK_fr ?_; bv_omega)
  | (with_reducible refine DL.cnd_true ?_; bv_omega)
  | (with_reducible refine DL.cnd_false ?_; bv_omega)
  | (with_reducible refine DL.cnd_not ?_; bv_omega)
  | (with_reducible refine DL.cnd_pos (by assumption) ?_; bv_omega)
  | (with_reducible refine DL.cnd_neg (by assumption) ?_; bv_omega)
  | (with_reducible refine DL.wI_it ?_; bv_omega)
  | (with_reducible refine DL.wI_r1 ?_; bv_omega)
  | (with_reducible refine DL.wI_r2 ?_; bv_omega)
  | (with_reducible refine DL.itK_lst ?_; bv_omega)
  | (with_reducible refine DL.itK_fr ?_; bv_omega)
  | (with_reducible refine DL.itK_tup ?_; bv_omega)
  | (with_reducible refine DL.itK_sq ?_; bv_omega)
  | (with_reducible refine DL.op_sub' ?_; bv_omega)
  | (with_reducible refine DL.op_add' ?_; bv_omega)
  | (with_reducible refine DL.op_lt' ?_; bv_omega)
  | (with_reducible refine DL.op_ltI' ?_; bv_omega)
  | (with_reducible refine DL.op_le' ?_; bv_omega)
  | (with_reducible refine DL.op_gt' ?_; bv_omega)
  | (with_reducible refine DL.op_ge' ?_; bv_omega)
  | (with_reducible refine DL.op_eqi' ?_; bv_omega)
  | (with_reducible refine DL.op_nei' ?_; bv_omega)
  | (with_reducible refine DL.op_eqb' ?_; bv_omega)
  | (with_reducible refine DL.op_neb' ?_; bv_omega)
  | (with_reducible refine DL.cb_len_lst ?_; bv_omega)
  | (with_reducible refine DL.cb_len_tup ?_; bv_omega)
  | (with_reducible refine DL.cb_len_sq ?_; bv_omega)
  | (with_reducible refine DL.cb_tuple ?_; bv_omega)
  | (with_reducible refine DL.cb_list ?_; bv_omega)
  | (with_reducible refine DL.cb_listT ?_; bv_omega)
  | (with_reducible refine DL.cb_abs ?_; bv_omega)
  | (with_reducible refine DL.cb_int ?_; bv_omega)
  | (with_reducible refine DL.cb_all ?_; bv_omega)
  | (with_reducible refine DL.cb_sorted ?_; bv_omega)
  | (refine DL.oK_some (o := DL.allD _) rfl ⟨Nat.le_of_ble_eq_true rfl, ?_⟩; bv_omega)
  | (refine ⟨_, rfl, ?_⟩; bv_omega)
  | (refine ⟨DL.isIns_toS _, ?_⟩; bv_omega)
  | (refine ⟨⟨rfl, rfl⟩, ?_⟩; bv_omega)
  | (with_reducible refine DL.wF_0 (by assumption) rfl rfl ?_; bv_omega)
  | (with_reducible refine DL.wF_box (by assumption) rfl rfl rfl ?_; try dsimp only [List.set_cons_zero, List.set_cons_succ]; bv_omega)
  | (refine DL.wF_0 (by apply_assumption) rfl rfl ?_; bv_omega)
  | skip)
namespace DL
open PySem PySem.Spec PyProof.Rows L2

structure Nr (nb : Int → Int → Bool) : Prop where
  refl : ∀ x, nb x x = true
  symm : ∀ x y, nb x y = nb y x
  lo : ∀ {a b c}, a ≤ b → b ≤ c → nb a c = true → nb a b = true
  hi : ∀ {a b c}, a ≤ b → b ≤ c → nb a c = true → nb b c = true
structure Ch (nb : Int → Int → Bool) (S : List Int) (C : List (List Int)) : Prop where
  flat : C.flatten = S
  ne : ∀ c ∈ C, c ≠ []
  sep : C.Pairwise fun c c' => ∀ x ∈ c, ∀ y ∈ c', nb x y = false
  link : ∀ c ∈ C, ∀ l1 a b l2, c = l1 ++ a :: b :: l2 → nb a b = true
theorem Ch.nil (nb : Int → Int → Bool) : Ch nb [] [] := ⟨rfl, by simp, .nil, by simp⟩
theorem Ch.new {nb : Int → Int → Bool} {p : List Int} {A : List (List Int)} {v : Int} (h : Ch nb p A) (hv : ∀ y ∈ p, nb y v = false) : Ch nb (p ++ [v]) (A ++ [[v]]) := by
  refine ⟨?_, ?_, ?_, ?_⟩
  · rw [← h.flat]
    simp
  · intro d hd
    rcases List.mem_append.mp hd with z | z
    · exact h.ne d z
    · rw [List.mem_singleton.mp z]
      simp
  · rw [List.pairwise_append]
    refine ⟨h.sep, List.pairwise_singleton _ _, fun d hd d' hd' y hy w hw => ?_⟩
    rw [List.mem_singleton.mp hd'] at hw
    rw [List.mem_singleton.mp hw]
    refine hv y ?_
    rw [← h.flat]
    exact List.mem_flatten.mpr ⟨d, hd, hy⟩
  · intro d hd l1 a b l2 e
    rcases List.mem_append.mp hd with z | z
    · exact h.link d z l1 a b l2 e
    · rw [List.mem_singleton.mp z] at e
      have := congrArg List.length e
      simp at this
      omega

@[reducible] def M_chains_0 : MS := (mPar false true 2 3 (mCall (callX M_slack_of) (mCons (mVar 1) mNil)) (mLst mNil))
@[reducible] def M_chains_1 : MS := (mDrop (mBm fAppend (mOp fIxN (mVar 3) (mUn (fun i => -i) (mC (.int 1)))) (mCons (mVar 4) mNil)))
@[reducible] def M_chains_2 : MS := (mAppN (mVar 3) (mLst (mCons (mVar 4) mNil)))
@[reducible] def M_chains_3 (nr : MF) : MS := (mIfS (mtAnd (mB (mOp fGtI (mCb fLenN (mCons (mVar 3) mNil)) (mC (.int 0)))) (mB (mMeth 0 (callX nr) (mVar 2) (mCons (mOp fIx (mOp fIxN (mVar 3) (mUn (fun i => -i) (mC (.int 1)))) (mUn (fun i => -i) (mC (.int 1)))) (mCons (mVar 4) mNil))))) M_chains_1 M_chains_2)
@[reducible] def M_chains_4 (nr : MF) : MS := (mFor (mIt (mCall (callX (ascF asc2)) (mCons (mVar 0) mNil))) (tgName 4) (M_chains_3 nr))
@[reducible] def M_chains_e5 : ME := (mCb fTuple (mCons (mVar 5) mNil))
@[reducible] def M_chains_6 : MS := (mRet (mCb fTuple (mCons (mLcE (mItN (mVar 3)) 5 mYes M_chains_e5 [5]) mNil)))
def M_chains (nr : MF) : MF := mDef 2 6
  (mSeq M_chains_0
  (mSeq (M_chains_4 nr)
  M_chains_6))
def NearOk (nr : MF) (f : Fo) : Prop := ∀ a b : Int, nr [.dat f.toS, .dat (.int a), .dat (.int b)] [] = some (.dat (.bl (f.nb a b)), [])
def rgC (n : Nat) : List El := (List.range n).map fun i => El.c (i + 1)
def hdC (A : List (List Int)) : Cel := match A with
  | [] => .l []
  | _ :: _ => .n (rgC A.length)
def muC (A : List (List Int)) : Mu := hdC A :: A.map fun c => Cel.l (c.map D.int)
section
variable {nr : MF} {f : Fo} {d : D} {x0 x1 x4 x5 : R} {K : R → Prop} {A : List (List Int)} {c : List Int}
end
end DL
set_option Elab.async false
set_option linter.all false
set_option maxRecDepth 100000
set_option maxHeartbeats 1000000

namespace DL
open PySem PySem.Spec PyProof.Rows L2
def dueIn (nb : Int → Int → Bool) (U : List Int) (one : Int) : Option (Int × Int × Int) := (U.filter (nb one)).findSome? fun mate => (U.filter fun own => nb mate own && !nb one own).head?.map fun far => (one, mate, far)
def dueL (nb : Int → Int → Bool) (U : List Int) : Option (Int × Int × Int) := U.findSome? (dueIn nb U)
def tornC (nb : Int → Int → Bool) (c : List Int) : Option (Int × Int × Int) := match c with
  | [] => none
  | h :: t => match (h :: t).filter (fun v => !nb h v) with
    | [] => none
    | far :: _ => match (h :: t).filter (fun v => nb v far) with
      | [] => none
      | mid :: _ => some (h, mid, far)
section
variable {nb : Int → Int → Bool} {S U : List Int} {C : List (List Int)}
end
end DL
set_option Elab.async false
set_option linter.all false
set_option maxRecDepth 100000
set_option maxHeartbeats 1000000

namespace DL
open PySem PySem.Spec PyProof.Rows L2
@[reducible] def M_numbers_0 : MS := (mSetC 1 (mLst mNil))
@[reducible] def M_numbers_e1 : ME := (mCb fInt (mCons (mVar 3) mNil))
@[reducible] def M_numbers_2 : MS := (mDrop (mBm fAppend (mVar 1) (mCons (mVar 2) mNil)))
@[reducible] def M_numbers_3 : MS := (mIfS (mB (mOp (fIn true) (mVar 2) (mVar 1))) M_numbers_2 mNx)
@[reducible] def M_numbers_4 : MS := (mFor (mIt (mCb fSorted (mCons (mLc (mIt (mVar 0)) (tgName 3) mYes M_numbers_e1 [3]) mNil))) (tgName 2) M_numbers_3)
@[reducible] def M_numbers_5 : MS := (mRet (mVar 1))
def M_numbers : MF := mDef 1 4
  (mSeq M_numbers_0
  (mSeq M_numbers_4
  M_numbers_5))
end DL
set_option Elab.async false
set_option linter.all false
set_option maxRecDepth 100000
set_option maxHeartbeats 1000000

namespace DL
open PySem L2
section
variable {m mo : ME} {ms : MA} {δ : Sl} {μ : Mu} {Q : R → Mu → Prop} {QA : List R → Mu → Prop} {QS : Flo → Prop} {f : MF} {i : Nat} {K : R → Prop}
def atK (c i : Nat) (r : R) (k : D → Prop) : Prop := ∃ xs d, r = .dat (.ins c xs) ∧ xs[i]? = some d ∧ k d
theorem atK_ins {c : Nat} {xs : List D} {d : D} {k : D → Prop} (h : xs[i]? = some d) (q : k d) : atK c i (.dat (.ins c xs)) k := ⟨xs, d, rfl, h, q⟩
theorem wE_at {c : Nat} (h : wE m δ μ fun r μ' => atK c i r fun d => Q (.dat d) μ') : wE (mAttr c i m) δ μ Q := by
  obtain ⟨r, μ', h1, xs, d, rfl, h2, h3⟩ := h
  exact ⟨_, μ', by simp only [mAttr, h1, if_true, h2], h3⟩
theorem wE_make {c : Nat} {mi : MIn} (h : wA ms δ μ fun rs μ' => ∃ z, mi rs μ' = some z ∧ Q (.dat (.ins c z.1)) z.2) : wE (mMake c mi ms) δ μ Q := by
  obtain ⟨rs, μ', h1, z, h2, h3⟩ := h
  exact ⟨_, _, by simp only [mMake, h1, h2], h3⟩
theorem ix0_tup {x : D} {xs : List D} (h : K (.dat x)) : oK (fIx (.dat (.tup (x :: xs))) (.dat (.int 0)) μ) K := ⟨_, by simp [fIx, atI, ixN], h⟩
theorem atI_nat {β : Type} {xs : List β} {n : Nat} (h : n < xs.length) : atI xs (n : Int) = some xs[n] := by
  unfold atI ixN
  rw [if_pos (by omega), if_pos (by omega)]
  simp [h]
theorem ix1_tup {x y : D} {xs : List D} (h : K (.dat y)) : oK (fIx (.dat (.tup (x :: y :: xs))) (.dat (.int 1)) μ) K := by
  refine ⟨_, ?_, h⟩
  unfold fIx
  dsimp only [sqOf, Sq.all]
  rw [show (1 : Int) = ((1 : Nat) : Int) from rfl, atI_nat (by simp)]
  rfl
end
end DL
set_option Elab.async false
set_option linter.all false
set_option maxRecDepth 100000
set_option maxHeartbeats 1000000
local macro_rules | `(tactic| bv_omega) => `(tactic| first
  | (with_reducible refine DL.fn_of rfl ?_; dsimp only [List.cons_append, List.nil_append, List.reduceReplicate, Nat.reduceSub]; bv_omega)
  | (with_reducible refine DL.wS_seq ?_; bv_omega)
  | (with_reducible refine DL.sqK_nx ?_; bv_omega)
  | (with_reducible refine DL.sqK_rt ?_; bv_omega)
  | (with_reducible refine DL.wS_ret ?_; bv_omega)
  | (with_reducible refine DL.wS_if ?_; bv_omega)
  | (with_reducible refine DL.wS_set ?_; bv_omega)
  | (with_reducible refine DL.wS_setC ?_; bv_omega)
  | (with_reducible refine DL.wS_par ?_; bv_omega)
  | (with_reducible refine DL.wS_par3 ?_; bv_omega)
  | (with_reducible refine DL.wS_asg ?_; bv_omega)
  | (with_reducible refine DL.wS_drop ?_; bv_omega)
  | (with_reducible refine DL.wS_for ?_; bv_omega)
  | (with_reducible refine DL.wS_nx ?_; bv_omega)
  | (with_reducible refine DL.wS_bk ?_; bv_omega)
  | (with_reducible refine DL.wS_ct ?_; bv_omega)
  | (with_reducible refine DL.stK_dat ?_; try dsimp only [List.set_cons_zero, List.set_cons_succ]; bv_omega)
  | (with_reducible refine DL.stK_fr ?_; try dsimp only [List.set_cons_zero, List.set_cons_succ]; bv_omega)
  | (with_reducible refine DL.stK_cel ?_; try dsimp only [List.set_cons_zero, List.set_cons_succ]; bv_omega)
  | (with_reducible refine DL.stK_new ?_; try dsimp only [List.set_cons_zero, List.set_cons_succ, List.length_cons, List.length_nil, List.cons_append, List.nil_append, Nat.zero_add, Nat.reduceAdd]; bv_omega)
  | (with_reducible refine DL.wE_var ?_; (first | refine DL.vK_dat rfl ?_ | refine DL.vK_cel rfl ?_); bv_omega)
  | (with_reducible refine DL.wE_c ?_; bv_omega)
  | (with_reducible refine DL.wE_op ?_; bv_omega)
  | (with_reducible refine DL.wE_un ?_; bv_omega)
  | (with_reducible refine DL.wE_not ?_; bv_omega)
  | (with_reducible refine DL.wE_if ?_; bv_omega)
  | (with_reducible refine DL.wE_or ?_; bv_omega)
  | (with_reducible refine DL.wE_and ?_; bv_omega)
  | (with_reducible refine DL.wE_tup ?_; bv_omega)
  | (with_reducible refine DL.wE_lst ?_; bv_omega)
  | (with_reducible refine DL.wE_cb ?_; bv_omega)
  | (with_reducible refine DL.wE_call ?_; bv_omega)
  | (with_reducible refine DL.wE_callK ?_; bv_omega)
  | (with_reducible refine DL.wE_meth ?_; bv_omega)
  | (with_reducible refine DL.wE_methK ?_; bv_omega)
  | (with_reducible refine DL.wE_lc ?_; bv_omega)
  | (with_reducible refine DL.wE_bm ?_; bv_omega)
  | (with_reducible refine DL.wT_b ?_; bv_omega)
  | (with_reducible refine DL.wT_not ?_; bv_omega)
  | (with_reducible refine DL.wT_and ?_; bv_omega)
  | (with_reducible refine DL.wT_or ?_; bv_omega)
  | (with_reducible refine DL.wA_nil ?_; bv_omega)
  | (with_reducible refine DL.wA_cons ?_; bv_omega)
  | (with_reducible refine DL.aK_dat ?_; bv_omega)
  | (with_reducible refine DL.aK_fr ?_; bv_omega)
  | (with_reducible refine DL.aK_cel ?_; bv_omega)
  | (with_reducible refine DL.bK_bl ?_; bv_omega)
  | (with_reducible refine DL.dK_dat ?_; bv_omega)
  | (with_reducible refine DL.dK_fr ?_; bv_omega)
  | (with_reducible refine DL.cnd_true ?_; bv_omega)
  | (with_reducible refine DL.cnd_false ?_; bv_omega)
  | (with_reducible refine DL.cnd_not ?_; bv_omega)
  | (with_reducible refine DL.cnd_pos (by assumption) ?_; bv_omega)
  | (with_reducible refine DL.cnd_neg (by assumption) ?_; bv_omega)
  | (with_reducible refine DL.wI_it ?_; bv_omega)
  | (with_reducible refine DL.wI_r1 ?_; bv_omega)
  | (with_reducible refine DL.wI_r2 ?_; bv_omega)
  | (with_reducible refine DL.itK_lst ?_; bv_omega)
  | (with_reducible refine DL.itK_fr ?_; bv_omega)
  | (with_reducible refine DL.itK_tup ?_; bv_omega)
  | (with_reducible refine DL.itK_sq ?_; bv_omega)
  | (with_reducible refine DL.op_sub' ?_; bv_omega)
  | (with_reducible refine DL.op_add' ?_; bv_omega)
  | (with_reducible refine DL.op_lt' ?_; bv_omega)
  | (with_reducible refine DL.op_ltI' ?_; bv_omega)
  | (with_reducible refine DL.op_le' ?_; bv_omega)
  | (with_reducible refine DL.op_gt' ?_; bv_omega)
  | (with_reducible refine DL.op_ge' ?_; bv_omega)
  | (with_reducible refine DL.op_eqi' ?_; bv_omega)
  | (with_reducible refine DL.op_nei' ?_; bv_omega)
  | (with_reducible refine DL.op_eqb' ?_; bv_omega)
  | (with_reducible refine DL.op_neb' ?_; bv_omega)
  | (with_reducible refine DL.cb_len_lst ?_; bv_omega)
  | (with_reducible refine DL.cb_len_tup ?_; bv_omega)
  | (with_reducible refine DL.cb_len_sq ?_; bv_omega)
  | (with_reducible refine DL.cb_tuple ?_; bv_omega)
  | (with_reducible refine DL.cb_list ?_; bv_omega)
  | (with_reducible refine DL.cb_listT ?_; bv_omega)
  | (with_reducible refine DL.cb_abs ?_; bv_omega)
  | (with_reducible refine DL.cb_int ?_; bv_omega)
  | (with_reducible refine DL.cb_all ?_; bv_omega)
  | (with_reducible refine DL.cb_sorted ?_; bv_omega)
  | (refine DL.oK_some (o := DL.allD _) rfl ⟨Nat.le_of_ble_eq_true rfl, ?_⟩; bv_omega)
  | (with_reducible refine DL.wA_nilV ?_; bv_omega)
  | (with_reducible refine DL.wA_consV ?_; bv_omega)
  | (with_reducible refine DL.wE_at ?_; bv_omega)
  | (with_reducible refine DL.wE_make ?_; bv_omega)
  | (with_reducible refine DL.cb_any ?_; bv_omega)
  | (with_reducible refine DL.op_eqs ?_; bv_omega)
  | (with_reducible refine DL.ix0_tup ?_; bv_omega)
  | (with_reducible refine DL.ix1_tup ?_; bv_omega)
  | (with_reducible refine DL.ix2_tup ?_; bv_omega)
  | (with_reducible refine DL.eq_same ?_; bv_omega)
  | (refine DL.atK_ins rfl ?_; bv_omega)
  | (with_reducible refine DL.tr_bl ?_; bv_omega)
  | (refine ⟨_, rfl, ?_⟩; bv_omega)
  | (refine ⟨DL.isIns_toS _, ?_⟩; bv_omega)
  | (refine ⟨(rfl : DL.isIns _ _ = true), ?_⟩; bv_omega)
  | (refine ⟨(rfl : DL.isLst _ = true), ?_⟩; bv_omega)
  | (refine ⟨⟨rfl, rfl⟩, ?_⟩; bv_omega)
  | (with_reducible refine DL.wF_0 (by assumption) rfl rfl ?_; bv_omega)
  | (with_reducible refine DL.wF_box (by assumption) rfl rfl rfl ?_; try dsimp only [List.set_cons_zero, List.set_cons_succ]; bv_omega)
  | (refine DL.wF_0 (by apply_assumption) rfl rfl ?_; bv_omega)
  | skip)

namespace DL
open PySem PySem.Spec PyProof.Rows L2
structure Nums (U S : List Int) : Prop where
  lt : U.Pairwise (· < ·)
  mem : ∀ x, x ∈ U ↔ x ∈ S
@[reducible] def M_unlike_0 : MS := (mSetC 1 (mLst mNil))
@[reducible] def M_unlike_1 : MS := (mDrop (mBm fAppend (mVar 1) (mCons (mVar 2) mNil)))
@[reducible] def M_unlike_2 : MS := (mIfS (mtOr (mB (mOp (fEq false) (mCb fLen (mCons (mVar 1) mNil)) (mC (.int 0)))) (mB (mOp (fEq true) (mOp fIx (mVar 1) (mUn (fun i => -i) (mC (.int 1)))) (mVar 2)))) M_unlike_1 mNx)
@[reducible] def M_unlike_3 : MS := (mFor (mIt (mCall (callX (ascF asc2)) (mCons (mVar 0) mNil))) (tgName 2) M_unlike_2)
@[reducible] def M_unlike_4 : MS := (mRet (mVar 1))
def M_unlike : MF := mDef 1 3
  (mSeq M_unlike_0
  (mSeq M_unlike_3
  M_unlike_4))
@[reducible] def M_least_0 : MS := (mSet 1 (mC .non))
@[reducible] def M_least_1 : MS := (mSet 1 (mVar 2))
@[reducible] def M_least_2 : MS := (mIfS (mtOr (mB (mOp (fIsN false) (mVar 1) (mC .non))) (mB (mOp fLt (mVar 2) (mVar 1)))) M_least_1 mNx)
@[reducible] def M_least_3 : MS := (mFor (mIt (mVar 0)) (tgName 2) M_least_2)
@[reducible] def M_least_4 : MS := (mRet (mVar 1))
def M_least : MF := mDef 1 3
  (mSeq M_least_0
  (mSeq M_least_3
  M_least_4))
end DL
set_option Elab.async false
set_option linter.all false
set_option maxRecDepth 100000
set_option maxHeartbeats 1000000

namespace DL
open PySem PySem.Spec PyProof.Rows L2
namespace V3
@[reducible] def M_near_0 (r : MF) : MS := (mRet (mOp fLeI (mCb fAbs (mCons (mOp fSub (mVar 1) (mVar 2)) mNil)) (mOp fIx (mVar 0) (mC (.int 1)))))
@[reducible] def M_near_1 (r : MF) : MS := (mIfS (mB (mOp (fEq false) (mOp fIx (mVar 0) (mC (.int 0))) (mC (.str "by")))) (M_near_0 r) mNx)
@[reducible] def M_near_2 (r : MF) : MS := (mSet 3 (mCb fMax (mCons (mCb fInt (mCons (mCb fAbs (mCons (mVar 1) mNil)) mNil)) (mCons (mCb fInt (mCons (mCb fAbs (mCons (mVar 2) mNil)) mNil)) mNil))))
@[reducible] def M_near_3 (r : MF) : MS := (mRet (mOp fLeI (mOp fMul (mCb fAbs (mCons (mOp fSub (mVar 1) (mVar 2)) mNil)) (mOp fIx (mVar 0) (mC (.int 2)))) (mOp fMul (mOp fIx (mVar 0) (mC (.int 1))) (mVar 3))))
@[reducible] def M_near_4 (r : MF) : MS := (mIfS (mB (mOp (fEq false) (mOp fIx (mVar 0) (mC (.int 0))) (mC (.str "part")))) (mSeq (M_near_2 r)
  (M_near_3 r)) mNx)
@[reducible] def M_near_5 (r : MF) : MS := (mPar false false 4 5 (mOp fSub (mVar 1) (mOp fIx (mVar 0) (mC (.int 2)))) (mOp fSub (mVar 2) (mOp fIx (mVar 0) (mC (.int 2)))))
@[reducible] def M_near_6 (r : MF) : MS := (mRet (mOp (fEq false) (mOp fDiv (mVar 4) (mOp fIx (mVar 0) (mC (.int 1)))) (mOp fDiv (mVar 5) (mOp fIx (mVar 0) (mC (.int 1))))))
@[reducible] def M_near_7 (r : MF) : MS := (mIfS (mB (mOp (fEq false) (mOp fIx (mVar 0) (mC (.int 0))) (mC (.str "cells")))) (mSeq (M_near_5 r)
  (M_near_6 r)) mNx)
@[reducible] def M_near_8 (r : MF) : MS := (mSet 6 (mCall (callX r) (mCons (mOp fIx (mVar 0) (mC (.int 1))) (mCons (mVar 1) (mCons (mVar 2) mNil)))))
@[reducible] def M_near_9 (r : MF) : MS := (mSet 7 (mCall (callX r) (mCons (mOp fIx (mVar 0) (mC (.int 2))) (mCons (mVar 1) (mCons (mVar 2) mNil)))))
@[reducible] def M_near_10 (r : MF) : MS := (mRet (mIf (mB (mOp (fEq false) (mOp fIx (mVar 0) (mC (.int 0))) (mC (.str "|")))) (mOr (mVar 6) (mVar 7)) (mAnd (mVar 6) (mVar 7))))
def M_near : Nat → MF
  | 0 => fun _ _ => none
  | j + 1 => mDef 3 8 (mSeq (M_near_1 (M_near j))
      (mSeq (M_near_4 (M_near j))
      (mSeq (M_near_7 (M_near j))
      (mSeq (M_near_8 (M_near j))
      (mSeq (M_near_9 (M_near j))
      (M_near_10 (M_near j)))))))
end V3
end DL
set_option Elab.async false
set_option linter.all false
set_option maxRecDepth 100000
set_option maxHeartbeats 1000000

namespace DL
open PySem L2
section
variable {m mo ma mb : ME} {ms : MA} {δ : Sl} {μ : Mu} {Q : R → Mu → Prop} {QO : Option Int → Mu → Prop} {QI : List D → (Mu → Bool) → Mu → Prop} {lo hi : Option Int} {xs ys : List D} {K : R → Prop}
def slK (x : R) (lo hi : Option Int) (μ : Mu) (k : R → Prop) : Prop := ∃ q, sqOf x μ = some q ∧ k (match q with
  | .l xs => .fr (cutD xs lo hi)
  | .t xs => .dat (.tup (cutD xs lo hi)))
def enK (r : R) (k : List D → Prop) : Prop := ∃ xs, (r = .dat (.lst xs) ∨ r = .dat (.tup xs)) ∧ k xs
def zpK (r s : R) (k : List D → Prop) : Prop := ∃ xs ys, ((r = .dat (.lst xs) ∧ s = .dat (.lst ys)) ∨ (r = .dat (.tup xs) ∧ s = .dat (.tup ys))) ∧ k (pairsD xs ys)
def zpR (rs : List R) (k : List D → Prop) : Prop := ∃ r s, rs = [r, s] ∧ zpK r s k
def r1R (rs : List R) (k : Int → Prop) : Prop := ∃ n, rs = [.dat (.int n)] ∧ (-1000000 ≤ n ∧ n ≤ 1000000) ∧ k n
theorem r1R_mk {n : Int} {k : Int → Prop} (h : -1000000 ≤ n ∧ n ≤ 1000000) (q : k n) : r1R [.dat (.int n)] k := ⟨n, rfl, h, q⟩
def r2R (rs : List R) (k : Int → Int → Prop) : Prop := ∃ a n, rs = [.dat (.int a), .dat (.int n)] ∧ (-1000000 ≤ a ∧ a ≤ 1000000 ∧ -1000000 ≤ n ∧ n ≤ 1000000) ∧ k a n
theorem r2R_mk {a n : Int} {k : Int → Int → Prop} (h : -1000000 ≤ a ∧ a ≤ 1000000 ∧ -1000000 ≤ n ∧ n ≤ 1000000) (q : k a n) : r2R [.dat (.int a), .dat (.int n)] k := ⟨a, n, rfl, h, q⟩
theorem wI_q1 (h : wA ms δ μ fun rs μ' => r1R rs fun n => QI (rgD 0 n) yes μ') : wI (mItR1 ms) δ μ QI := wI_r1 h
theorem wI_q2 (h : wA ms δ μ fun rs μ' => r2R rs fun a n => QI (rgD a n) yes μ') : wI (mItR2 ms) δ μ QI := wI_r2 h
/-- a comprehension in a comprehension -/
def wLc2 (gd : Mu → Bool) (t : TGT) (mt : MT) (mi1 : MI) (t1 : TGT) (mt1 : MT) (me : ME) (vs1 : List Nat) (δ : Sl) (xs : List D) (μ : Mu) (Q : List D → Mu → Prop) : Prop := ∃ ys μ', lcLoop2 gd t mt mi1 t1 mt1 me vs1 δ xs [] μ = some (ys, μ') ∧ Q ys μ'
end
end DL
set_option Elab.async false
set_option linter.all false
set_option maxRecDepth 100000
set_option maxHeartbeats 1000000

namespace DL
open PySem L2
section
variable {X L : Mu} {k n : Nat} {c : Cel} {xs : List D} {es : List El}
def wN (m : MN) (δ : Sl) (μ : Mu) (Q : List El → Mu → Prop) : Prop := ∃ es μ', m δ μ = some (es, μ') ∧ Q es μ'
end
end DL
set_option Elab.async false
set_option linter.all false
set_option maxRecDepth 100000
set_option maxHeartbeats 1000000

namespace DL
open PySem L2
section
variable {δ : Sl} {QS : Flo → Prop}
theorem add_fr {xs ys : List D} {μ : Mu} {K : R → Prop} (h : xs.length + ys.length ≤ 100000) (q : K (.fr (xs ++ ys))) : oK (fAdd (.fr xs) (.fr ys) μ) K := ⟨_, by
  show (if xs.length + ys.length ≤ 100000 then some (R.fr (xs ++ ys)) else none) = _
  rw [if_pos h], q⟩
end
end DL
set_option Elab.async false
set_option linter.all false
set_option maxRecDepth 100000
set_option maxHeartbeats 1000000
local macro_rules | `(tactic| bv_omega) => `(tactic| first
  | (with_reducible refine DL.fn_of rfl ?_; dsimp only [List.cons_append, List.nil_append, List.reduceReplicate, Nat.reduceSub]; bv_omega)
  | (with_reducible refine DL.wS_seq ?_; bv_omega)
  | (with_reducible refine DL.sqK_nx ?_; bv_omega)
  | (with_reducible refine DL.sqK_rt ?_; bv_omega)
  | (with_reducible refine DL.wS_ret ?_; bv_omega)
  | (with_reducible refine DL.wS_if ?_; bv_omega)
  | (with_reducible refine DL.wS_set ?_; bv_omega)
  | (with_reducible refine DL.wS_setC ?_; bv_omega)
  | (with_reducible refine DL.wS_par ?_; bv_omega)
  | (with_reducible refine DL.wS_par3 ?_; bv_omega)
  | (with_reducible refine DL.wS_asg ?_; bv_omega)
  | (with_reducible refine DL.wS_drop ?_; bv_omega)
  | (with_reducible refine DL.wS_for ?_; bv_omega)
  | (with_reducible refine DL.wS_nx ?_; bv_omega)
  | (with_reducible refine DL.wS_bk ?_; bv_omega)
  | (with_reducible refine DL.wS_ct ?_; bv_omega)
  | (with_reducible refine DL.stK_dat ?_; try dsimp only [List.set_cons_zero, List.set_cons_succ]; bv_omega)
  | (with_reducible refine DL.stK_fr ?_; try dsimp only [List.set_cons_zero, List.set_cons_succ]; bv_omega)
  | (with_reducible refine DL.stK_cel ?_; try dsimp only [List.set_cons_zero, List.set_cons_succ]; bv_omega)
  | (with_reducible refine DL.stK_new ?_; try dsimp only [List.set_cons_zero, List.set_cons_succ, List.length_cons, List.length_nil, List.cons_append, List.nil_append, Nat.zero_add, Nat.reduceAdd]; bv_omega)
  | (with_reducible refine DL.wE_var ?_; (first | refine DL.vK_dat rfl ?_ | refine DL.vK_cel rfl ?_); bv_omega)
  | (with_reducible refine DL.wE_c ?_; bv_omega)
  | (with_reducible refine DL.wE_op ?_; bv_omega)
  | (with_reducible refine DL.wE_un ?_; bv_omega)
  | (with_reducible refine DL.wE_not ?_; bv_omega)
  | (with_reducible refine DL.wE_if ?_; bv_omega)
  | (with_reducible refine DL.wE_or ?_; bv_omega)
  | (with_reducible refine DL.wE_and ?_; bv_omega)
  | (with_reducible refine DL.wE_tup ?_; bv_omega)
  | (with_reducible refine DL.wE_lst ?_; bv_omega)
  | (with_reducible refine DL.wE_cb ?_; bv_omega)
  | (with_reducible refine DL.wE_call ?_; bv_omega)
  | (with_reducible refine DL.wE_callK ?_; bv_omega)
  | (with_reducible refine DL.wE_meth ?_; bv_omega)
  | (with_reducible refine DL.wE_methK ?_; bv_omega)
  | (with_reducible refine DL.wE_lc ?_; bv_omega)
  | (with_reducible refine DL.wE_bm ?_; bv_omega)
  | (with_reducible refine DL.wT_b ?_; bv_omega)
  | (with_reducible refine DL.wT_not ?_; bv_omega)
  | (with_reducible refine DL.wT_and ?_; bv_omega)
  | (with_reducible refine DL.wT_or ?_; bv_omega)
  | (with_reducible refine DL.wA_nil ?_; bv_omega)
  | (with_reducible refine DL.wA_cons ?_; bv_omega)
  | (with_reducible refine DL.aK_dat ?_; bv_omega)
  | (with_reducible refine DL.aK_fr ?_; bv_omega)
  | (with_reducible refine DL.aK_cel ?_; bv_omega)
  | (with_reducible refine DL.bK_bl ?_; bv_omega)
  | (with_reducible refine DL.dK_dat ?_; bv_omega)
  | (with_reducible refine DL.dK_fr ?_; bv_omega)
  | (with_reducible refine DL.cnd_true ?_; bv_omega)
  | (with_reducible refine DL.cnd_false ?_; bv_omega)
  | (with_reducible refine DL.cnd_not ?_; bv_omega)
  | (with_reducible refine DL.cnd_pos (by assumption) ?_; bv_omega)
  | (with_reducible refine DL.cnd_neg (by assumption) ?_; bv_omega)
  | (with_reducible refine DL.wI_it ?_; bv_omega)
  | (with_reducible refine DL.wI_q1 ?_; bv_omega)
  | (with_reducible refine DL.wI_q2 ?_; bv_omega)
  | (with_reducible refine DL.r1R_mk (by omega) ?_; bv_omega)
  | (with_reducible refine DL.r2R_mk (by omega) ?_; bv_omega)
  | (with_reducible refine DL.itK_lst ?_; bv_omega)
  | (with_reducible refine DL.itK_fr ?_; bv_omega)
  | (with_reducible refine DL.itK_tup ?_; bv_omega)
  | (with_reducible refine DL.itK_sq ?_; bv_omega)
  | (with_reducible refine DL.op_sub' ?_; bv_omega)
  | (with_reducible refine DL.op_add' ?_; bv_omega)
  | (with_reducible refine DL.op_lt' ?_; bv_omega)
  | (with_reducible refine DL.op_ltI' ?_; bv_omega)
  | (with_reducible refine DL.op_le' ?_; bv_omega)
  | (with_reducible refine DL.op_gt' ?_; bv_omega)
  | (with_reducible refine DL.op_ge' ?_; bv_omega)
  | (with_reducible refine DL.op_eqi' ?_; bv_omega)
  | (with_reducible refine DL.op_nei' ?_; bv_omega)
  | (with_reducible refine DL.op_eqb' ?_; bv_omega)
  | (with_reducible refine DL.op_neb' ?_; bv_omega)
  | (with_reducible refine DL.cb_len_lst ?_; bv_omega)
  | (with_reducible refine DL.cb_len_tup ?_; bv_omega)
  | (with_reducible refine DL.cb_len_sq ?_; bv_omega)
  | (with_reducible refine DL.cb_tuple ?_; bv_omega)
  | (with_reducible refine DL.cb_list ?_; bv_omega)
  | (with_reducible refine DL.cb_listT ?_; bv_omega)
  | (with_reducible refine DL.cb_abs ?_; bv_omega)
  | (with_reducible refine DL.cb_int ?_; bv_omega)
  | (with_reducible refine DL.cb_all ?_; bv_omega)
  | (with_reducible refine DL.cb_sorted ?_; bv_omega)
  | (refine DL.oK_some (o := DL.allD _) rfl ⟨Nat.le_of_ble_eq_true rfl, ?_⟩; bv_omega)
  | (with_reducible refine DL.wA_nilV ?_; bv_omega)
  | (with_reducible refine DL.wA_consV ?_; bv_omega)
  | (with_reducible refine DL.wE_at ?_; bv_omega)
  | (with_reducible refine DL.wE_make ?_; bv_omega)
  | (with_reducible refine DL.cb_any ?_; bv_omega)
  | (with_reducible refine DL.op_eqs ?_; bv_omega)
  | (with_reducible refine DL.ix0_tup ?_; bv_omega)
  | (with_reducible refine DL.ix1_tup ?_; bv_omega)
  | (with_reducible refine DL.ix2_tup ?_; bv_omega)
  | (with_reducible refine DL.eq_same ?_; bv_omega)
  | (refine DL.atK_ins rfl ?_; bv_omega)
  | (with_reducible refine DL.tr_bl ?_; bv_omega)
  | (with_reducible refine DL.wE_sl ?_; bv_omega)
  | (with_reducible refine DL.op_div' (by omega) (by omega) ?_; bv_omega)
  | (with_reducible refine DL.op_mod' (by omega) ?_; bv_omega)
  | (with_reducible refine DL.wO_no ?_; bv_omega)
  | (with_reducible refine DL.wO_so ?_; bv_omega)
  | (with_reducible refine DL.iK_int ?_; bv_omega)
  | (with_reducible refine DL.slK_lst ?_; bv_omega)
  | (with_reducible refine DL.slK_fr ?_; bv_omega)
  | (with_reducible refine DL.slK_tup ?_; bv_omega)
  | (with_reducible refine DL.wI_en ?_; bv_omega)
  | (with_reducible refine DL.enK_lst ?_; bv_omega)
  | (with_reducible refine DL.enK_tup ?_; bv_omega)
  | (with_reducible refine DL.wI_zip ?_; bv_omega)
  | (with_reducible refine DL.zpK_lst ?_; bv_omega)
  | (with_reducible refine DL.zpK_tup ?_; bv_omega)
  | (with_reducible refine DL.wE_lc2 ?_; bv_omega)
  | (with_reducible refine DL.wT_yes ?_; bv_omega)
  | (with_reducible refine DL.wE_chain ?_; bv_omega)
  | (with_reducible refine DL.zpR_mk ?_; bv_omega)
  | (with_reducible show DL.wE _ _ _ _)
  | (with_reducible show DL.wS _ _ _ _)
  | (with_reducible show DL.wT _ _ _ _)
  | (with_reducible show DL.wA _ _ _ _)
  | (with_reducible show DL.wI _ _ _ _)
  | (with_reducible show DL.wO _ _ _ _)
  | (with_reducible show DL.wL _ _ _ _ _ _ _)
  | (with_reducible show DL.wLc _ _ _ _ _ _ _ _)
  | (with_reducible show DL.wLc2 _ _ _ _ _ _ _ _ _ _ _)
  | (refine ⟨_, rfl, ?_⟩; bv_omega)
  | (refine ⟨DL.isIns_toS _, ?_⟩; bv_omega)
  | (refine ⟨(rfl : DL.isIns _ _ = true), ?_⟩; bv_omega)
  | (refine ⟨(rfl : DL.isLst _ = true), ?_⟩; bv_omega)
  | (refine ⟨⟨rfl, rfl⟩, ?_⟩; bv_omega)
  | (with_reducible refine DL.wF_0 (by assumption) rfl rfl ?_; bv_omega)
  | (with_reducible refine DL.wF_box (by assumption) rfl rfl rfl ?_; try dsimp only [List.set_cons_zero, List.set_cons_succ]; bv_omega)
  | (refine DL.wF_0 (by apply_assumption) rfl rfl ?_; bv_omega)
  | skip)

namespace DL
open PySem L2
def prs : List Int → List (Int × Int)
  | [] => []
  | x :: xs => xs.map (fun y => (x, y)) ++ prs xs
def prI (z : Int × Int) : D := .tup [.int z.1, .int z.2]
/-- what enumerate gives -/
def enumL : Nat → List Int → List (Nat × Int)
  | _, [] => []
  | i, x :: xs => (i, x) :: enumL (i + 1) xs
@[reducible] def M_pairs_of_0 : MS := (mSet 1 (mCall (callX M_unlike) (mCons (mCall (callX (T_ 4)) (mCons (mVar 0) mNil)) mNil)))
@[reducible] def M_pairs_of_e1 : ME := (mTup (mCons (mVar 3) (mCons (mVar 4) mNil)))
@[reducible] def M_pairs_of_2 : MS := (mRet (mLc2 (mItEn (mCons (mVar 1) mNil)) (tgPair 2 3) mYes (mIt (mSl (mVar 1) (mSo (mOp fAdd (mVar 2) (mC (.int 1)))) mNo)) (tgName 4) mYes M_pairs_of_e1 [2, 3, 4] [4]))
def M_pairs_of : MF := mDef 1 5
  (mSeq M_pairs_of_0
  M_pairs_of_2)
def nearL (f : Fo) (U : List Int) : List (Int × Int) := (prs U).filter fun z => f.nb z.1 z.2
def tornB (w s : Int) (z : Int × Int) : Bool := !decide ((z.1 - s) / w = (z.2 - s) / w)
@[reducible] def M_near_ones_0 : MS := (mSet 2 (mCall (callX M_slack_of) (mCons (mVar 1) mNil)))
@[reducible] def M_near_ones_c1 (isn : MF) : MT := (mB (mMeth 0 (callX isn) (mVar 2) (mCons (mVar 3) (mCons (mVar 4) mNil))))
@[reducible] def M_near_ones_e2 : ME := (mTup (mCons (mVar 3) (mCons (mVar 4) mNil)))
@[reducible] def M_near_ones_3 (isn : MF) : MS := (mRet (mLc (mIt (mCall (callX M_pairs_of) (mCons (mVar 0) mNil))) (tgPair 3 4) (M_near_ones_c1 isn) M_near_ones_e2 [3, 4]))
def M_near_ones (isn : MF) : MF := mDef 2 5
  (mSeq M_near_ones_0
  (M_near_ones_3 isn))
@[reducible] def M_is_torn_0 : MS := (mRet (mOp (fEq true) (mOp fDiv (mOp fSub (mOp fIx (mVar 0) (mC (.int 0))) (mVar 2)) (mVar 1)) (mOp fDiv (mOp fSub (mOp fIx (mVar 0) (mC (.int 1))) (mVar 2)) (mVar 1))))
def M_is_torn : MF := mDef 3 3
  M_is_torn_0
section
variable {f : Fo} {d : D} {isn : MF} {k : Bool} {ns U : List Int}
@[reducible] def M_whole_starts_0 (isn : MF) : MS := (mSet 3 (mCall (callX (M_near_ones isn)) (mCons (mVar 0) (mCons (mVar 1) mNil))))
@[reducible] def M_whole_starts_e1 : ME := (mCall (callX M_is_torn) (mCons (mVar 5) (mCons (mVar 2) (mCons (mVar 4) mNil))))
@[reducible] def M_whole_starts_c2 : MT := (mtNot (mB (mCb fAny (mCons (mLc (mIt (mVar 3)) (tgName 5) mYes M_whole_starts_e1 [5]) mNil))))
@[reducible] def M_whole_starts_e3 : ME := (mVar 4)
@[reducible] def M_whole_starts_4 : MS := (mRet (mLc (mItR1 (mCons (mVar 2) mNil)) (tgName 4) M_whole_starts_c2 M_whole_starts_e3 [4]))
def M_whole_starts (isn : MF) : MF := mDef 3 6
  (mSeq (M_whole_starts_0 isn)
  M_whole_starts_4)
def wholeL (L : List (Int × Int)) (w : Int) : List Int := (rgI 0 w).filter fun s => !L.any (tornB w s)
end
namespace V4
@[reducible] def M_near_0 (r : MF) : MS := (mRet (mOp fLeI (mCb fAbs (mCons (mOp fSub (mVar 1) (mVar 2)) mNil)) (mOp fIx (mVar 0) (mC (.int 1)))))
@[reducible] def M_near_1 (r : MF) : MS := (mIfS (mB (mOp (fEq false) (mOp fIx (mVar 0) (mC (.int 0))) (mC (.str "by")))) (M_near_0 r) mNx)
@[reducible] def M_near_2 (r : MF) : MS := (mSet 3 (mOp fMul (mCb fAbs (mCons (mOp fSub (mVar 1) (mVar 2)) mNil)) (mOp fIx (mVar 0) (mC (.int 2)))))
@[reducible] def M_near_3 (r : MF) : MS := (mRet (mOr (mOp fLeI (mVar 3) (mOp fMul (mOp fIx (mVar 0) (mC (.int 1))) (mCb fAbs (mCons (mVar 1) mNil)))) (mOp fLeI (mVar 3) (mOp fMul (mOp fIx (mVar 0) (mC (.int 1))) (mCb fAbs (mCons (mVar 2) mNil))))))
@[reducible] def M_near_4 (r : MF) : MS := (mIfS (mB (mOp (fEq false) (mOp fIx (mVar 0) (mC (.int 0))) (mC (.str "part")))) (mSeq (M_near_2 r)
  (M_near_3 r)) mNx)
@[reducible] def M_near_5 (r : MF) : MS := (mRet (mOp (fEq false) (mOp fDiv (mOp fSub (mVar 1) (mOp fIx (mVar 0) (mC (.int 2)))) (mOp fIx (mVar 0) (mC (.int 1)))) (mOp fDiv (mOp fSub (mVar 2) (mOp fIx (mVar 0) (mC (.int 2)))) (mOp fIx (mVar 0) (mC (.int 1))))))
@[reducible] def M_near_6 (r : MF) : MS := (mIfS (mB (mOp (fEq false) (mOp fIx (mVar 0) (mC (.int 0))) (mC (.str "cells")))) (M_near_5 r) mNx)
@[reducible] def M_near_7 (r : MF) : MS := (mSet 4 (mCall (callX r) (mCons (mOp fIx (mVar 0) (mC (.int 1))) (mCons (mVar 1) (mCons (mVar 2) mNil)))))
@[reducible] def M_near_8 (r : MF) : MS := (mSet 5 (mCall (callX r) (mCons (mOp fIx (mVar 0) (mC (.int 2))) (mCons (mVar 1) (mCons (mVar 2) mNil)))))
@[reducible] def M_near_9 (r : MF) : MS := (mRet (mIf (mB (mOp (fEq false) (mOp fIx (mVar 0) (mC (.int 0))) (mC (.str "|")))) (mOr (mVar 4) (mVar 5)) (mAnd (mVar 4) (mVar 5))))
def M_near : Nat → MF
  | 0 => fun _ _ => none
  | j + 1 => mDef 3 6 (mSeq (M_near_1 (M_near j))
      (mSeq (M_near_4 (M_near j))
      (mSeq (M_near_6 (M_near j))
      (mSeq (M_near_7 (M_near j))
      (mSeq (M_near_8 (M_near j))
      (M_near_9 (M_near j)))))))
end V4
end DL
set_option Elab.async false
set_option linter.all false
set_option maxRecDepth 100000
set_option maxHeartbeats 1000000

namespace DL
open PySem L2
def ltP (a b : Int × Int) : Bool := if a.1 = b.1 then decide (a.2 < b.2) else decide (a.1 < b.1)
def cntL (L : List (Int × Int)) (w s : Int) : Int := ((L.filter (tornB w s)).length : Nat)
end DL
set_option Elab.async false
set_option linter.all false
set_option maxRecDepth 100000
set_option maxHeartbeats 1000000

namespace DL
open PySem L2
end DL
set_option Elab.async false
set_option linter.all false
set_option maxRecDepth 100000
set_option maxHeartbeats 1000000

namespace DL
open PySem L2
section
variable {δ : Sl} {μ : Mu} {QS : Flo → Prop}
end

end DL
set_option Elab.async false
set_option linter.all false
set_option maxRecDepth 100000
set_option maxHeartbeats 1000000

namespace DL
open PySem L2
section
variable {ma mb m : ME} {δ : Sl} {μ : Mu} {Q : R → Mu → Prop} {QS : Flo → Prop} {g g1 g2 : G2} {x y : R} {f : MF} {c c1 n i : Nat} {xs : List D} {a b : Int} {fb : R → R → Mu → Option R} {neg : Bool} {d : D}
def gK (g : G2) (x y : R) (μ : Mu) (Q : R → Mu → Prop) : Prop := ∃ z, g x y μ = some z ∧ Q z.1 z.2
theorem wE_opG (h : wE ma δ μ fun x μ1 => wE mb δ μ1 fun y μ2 => gK g x y μ2 Q) : wE (mOpG g ma mb) δ μ Q := by
  obtain ⟨x, μ1, h1, y, μ2, h2, z, h3, h4⟩ := h
  exact ⟨z.1, z.2, by simp only [mOpG, h1, h2, h3], h4⟩
end
end DL
set_option Elab.async false
set_option linter.all false
set_option maxRecDepth 100000
set_option maxHeartbeats 1000000

namespace DL
open PySem L2
section
variable {ma mb m : ME} {ms mk : MA} {δ : Sl} {μ : Mu} {Q : R → Mu → Prop} {QS : Flo → Prop} {g g1 g2 : G2} {x y : R} {f : MF} {c c1 n i : Nat} {xs ys : List D} {a b : Int} {neg : Bool} {d : D}
@[irreducible] def lnK (z : R) (k : Int → Prop) : Prop := ∃ i : Int, z = .dat (.int i) ∧ (0 ≤ i ∧ i < 1000000) ∧ k i
end
end DL
set_option Elab.async false
set_option linter.all false
set_option maxRecDepth 100000
set_option maxHeartbeats 1000000

namespace DL
open PySem PySem.Spec PyProof.Rows L2
section
variable {m : ME} {δ : Sl} {μ : Mu} {Q : R → Mu → Prop} {QS : Flo → Prop} {i k : Nat} {kvs : List (Key × El)}
end
end DL
set_option Elab.async false
set_option linter.all false
set_option maxRecDepth 100000
set_option maxHeartbeats 1000000
local macro_rules | `(tactic| bv_omega) => `(tactic| first
  | (with_reducible refine DL.fn_of rfl ?_; dsimp only [List.cons_append, List.nil_append, List.reduceReplicate, Nat.reduceSub]; bv_omega)
  | (with_reducible refine DL.wS_seq ?_; bv_omega)
  | (with_reducible refine DL.sqK_nx ?_; bv_omega)
  | (with_reducible refine DL.sqK_rt ?_; bv_omega)
  | (with_reducible refine DL.wS_ret ?_; bv_omega)
  | (with_reducible refine DL.wS_if ?_; bv_omega)
  | (with_reducible refine DL.wS_set ?_; bv_omega)
  | (with_reducible refine DL.wS_setC ?_; bv_omega)
  | (with_reducible refine DL.wS_par ?_; bv_omega)
  | (with_reducible refine DL.wS_par3 ?_; bv_omega)
  | (with_reducible refine DL.wS_asg ?_; bv_omega)
  | (with_reducible refine DL.wS_drop ?_; bv_omega)
  | (with_reducible refine DL.wS_for ?_; bv_omega)
  | (with_reducible refine DL.wS_nx ?_; bv_omega)
  | (with_reducible refine DL.wS_bk ?_; bv_omega)
  | (with_reducible refine DL.wS_ct ?_; bv_omega)
  | (with_reducible refine DL.stK_dat ?_; try dsimp only [List.set_cons_zero, List.set_cons_succ]; bv_omega)
  | (with_reducible refine DL.stK_fr ?_; try dsimp only [List.set_cons_zero, List.set_cons_succ]; bv_omega)
  | (with_reducible refine DL.stK_cel ?_; try dsimp only [List.set_cons_zero, List.set_cons_succ]; bv_omega)
  | (with_reducible refine DL.stK_new ?_; try simp only [List.set_cons_zero, List.set_cons_succ, List.append_assoc, List.cons_append, List.nil_append, List.length_append, List.length_cons, List.length_nil, Nat.zero_add, Nat.add_assoc, Nat.reduceAdd]; bv_omega)
  | (with_reducible refine DL.wE_var ?_; (first | refine DL.vK_dat rfl ?_ | refine DL.vK_cel rfl ?_); bv_omega)
  | (with_reducible refine DL.wE_c ?_; bv_omega)
  | (with_reducible refine DL.wE_op ?_; bv_omega)
  | (with_reducible refine DL.wE_un ?_; bv_omega)
  | (with_reducible refine DL.wE_not ?_; bv_omega)
  | (with_reducible refine DL.wE_if ?_; bv_omega)
  | (with_reducible refine DL.wE_or ?_; bv_omega)
  | (with_reducible refine DL.wE_and ?_; bv_omega)
  | (with_reducible refine DL.wE_tup ?_; bv_omega)
  | (with_reducible refine DL.wE_lst ?_; bv_omega)
  | (with_reducible refine DL.wE_cb ?_; bv_omega)
  | (with_reducible refine DL.wE_call ?_; bv_omega)
  | (with_reducible refine DL.wE_callK ?_; bv_omega)
  | (with_reducible refine DL.wE_meth ?_; bv_omega)
  | (with_reducible refine DL.wE_methK ?_; bv_omega)
  | (with_reducible refine DL.wE_lc ?_; bv_omega)
  | (with_reducible refine DL.wE_bm ?_; bv_omega)
  | (with_reducible refine DL.wT_b ?_; bv_omega)
  | (with_reducible refine DL.wT_not ?_; bv_omega)
  | (with_reducible refine DL.wT_and ?_; bv_omega)
  | (with_reducible refine DL.wT_or ?_; bv_omega)
  | (with_reducible refine DL.wA_nil ?_; bv_omega)
  | (with_reducible refine DL.wA_cons ?_; bv_omega)
  | (with_reducible refine DL.aK_dat ?_; bv_omega)
  | (with_reducible refine DL.aK_fr ?_; bv_omega)
  | (with_reducible refine DL.aK_cel ?_; bv_omega)
  | (with_reducible refine DL.bK_bl ?_; bv_omega)
  | (with_reducible refine DL.dK_dat ?_; bv_omega)
  | (with_reducible refine DL.dK_fr ?_; bv_omega)
  | (with_reducible refine DL.cnd_true ?_; bv_omega)
  | (with_reducible refine DL.cnd_false ?_; bv_omega)
  | (with_reducible refine DL.cnd_not ?_; bv_omega)
  | (with_reducible refine DL.cnd_pos (by assumption) ?_; bv_omega)
  | (with_reducible refine DL.cnd_neg (by assumption) ?_; bv_omega)
  | (with_reducible refine DL.wI_it ?_; bv_omega)
  | (with_reducible refine DL.wI_q1 ?_; bv_omega)
  | (with_reducible refine DL.wI_q2 ?_; bv_omega)
  | (with_reducible refine DL.r1R_mk (by omega) ?_; bv_omega)
  | (with_reducible refine DL.r2R_mk (by omega) ?_; bv_omega)
  | (with_reducible refine DL.itK_lst ?_; bv_omega)
  | (with_reducible refine DL.itK_fr ?_; bv_omega)
  | (with_reducible refine DL.itK_tup ?_; bv_omega)
  | (with_reducible refine DL.itK_sq ?_; bv_omega)
  | (with_reducible refine DL.op_sub' ?_; bv_omega)
  | (with_reducible refine DL.op_add' ?_; bv_omega)
  | (with_reducible refine DL.op_lt' ?_; bv_omega)
  | (with_reducible refine DL.op_ltI' ?_; bv_omega)
  | (with_reducible refine DL.op_le' ?_; bv_omega)
  | (with_reducible refine DL.op_gt' ?_; bv_omega)
  | (with_reducible refine DL.op_ge' ?_; bv_omega)
  | (with_reducible refine DL.op_eqi' ?_; bv_omega)
  | (with_reducible refine DL.op_nei' ?_; bv_omega)
  | (with_reducible refine DL.op_eqb' ?_; bv_omega)
  | (with_reducible refine DL.op_neb' ?_; bv_omega)
  | (with_reducible refine DL.cb_len_lst ?_; bv_omega)
  | (with_reducible refine DL.cb_len_tup ?_; bv_omega)
  | (with_reducible refine DL.cb_len_sq ?_; bv_omega)
  | (with_reducible refine DL.cb_tuple ?_; bv_omega)
  | (with_reducible refine DL.cb_list ?_; bv_omega)
  | (with_reducible refine DL.cb_listT ?_; bv_omega)
  | (with_reducible refine DL.cb_abs ?_; bv_omega)
  | (with_reducible refine DL.cb_int ?_; bv_omega)
  | (with_reducible refine DL.cb_all ?_; bv_omega)
  | (with_reducible refine DL.cb_sorted ?_; bv_omega)
  | (with_reducible refine DL.wA_nilV ?_; bv_omega)
  | (with_reducible refine DL.wA_consV ?_; bv_omega)
  | (with_reducible refine DL.wE_at ?_; bv_omega)
  | (with_reducible refine DL.wE_make ?_; bv_omega)
  | (with_reducible refine DL.cb_any ?_; bv_omega)
  | (with_reducible refine DL.op_eqs ?_; bv_omega)
  | (with_reducible refine DL.ix0_tup ?_; bv_omega)
  | (with_reducible refine DL.ix1_tup ?_; bv_omega)
  | (with_reducible refine DL.ix2_tup ?_; bv_omega)
  | (with_reducible refine DL.eq_same ?_; bv_omega)
  | (with_reducible refine DL.tr_bl ?_; bv_omega)
  | (with_reducible refine DL.wE_sl ?_; bv_omega)
  | (with_reducible refine DL.wS_setN ?_; bv_omega)
  | (with_reducible refine DL.wE_lstN ?_; bv_omega)
  | (with_reducible refine DL.wN_nil ?_; bv_omega)
  | (with_reducible refine DL.wN_cons ?_; bv_omega)
  | (with_reducible refine DL.toEl_dat ?_; bv_omega)
  | (with_reducible refine DL.toEl_cel ?_; bv_omega)
  | (with_reducible refine DL.toEl_fr ?_; bv_omega)
  | (with_reducible refine DL.op_div' (by omega) (by omega) ?_; bv_omega)
  | (with_reducible refine DL.op_mod' (by omega) ?_; bv_omega)
  | (with_reducible refine DL.wO_no ?_; bv_omega)
  | (with_reducible refine DL.wO_so ?_; bv_omega)
  | (with_reducible refine DL.iK_int ?_; bv_omega)
  | (with_reducible refine DL.slK_lst ?_; bv_omega)
  | (with_reducible refine DL.slK_fr ?_; bv_omega)
  | (with_reducible refine DL.slK_tup ?_; bv_omega)
  | (with_reducible refine DL.wI_en ?_; bv_omega)
  | (with_reducible refine DL.enK_lst ?_; bv_omega)
  | (with_reducible refine DL.enK_tup ?_; bv_omega)
  | (with_reducible refine DL.wI_zip ?_; bv_omega)
  | (with_reducible refine DL.zpK_lst ?_; bv_omega)
  | (with_reducible refine DL.zpK_tup ?_; bv_omega)
  | (with_reducible refine DL.wE_lc2 ?_; bv_omega)
  | (with_reducible refine DL.wT_yes ?_; bv_omega)
  | (with_reducible refine DL.wE_chain ?_; bv_omega)
  | (with_reducible refine DL.zpR_mk ?_; bv_omega)
  | (with_reducible refine ⟨DL.isLst_k rfl, ?_⟩; bv_omega)
  | (with_reducible refine ⟨DL.isLst_0 rfl, ?_⟩; bv_omega)
  | (with_reducible refine DL.oKa_k rfl (by first | omega | (simp; done) | (simp; omega)) ?_; dsimp only [List.set_cons_zero, List.set_cons_succ, List.cons_append, List.nil_append]; bv_omega)
  | (with_reducible refine DL.oKa_0 rfl (by first | omega | (simp; done) | (simp; omega)) ?_; dsimp only [List.set_cons_zero, List.set_cons_succ, List.cons_append, List.nil_append]; bv_omega)
  | (with_reducible refine DL.wF_0 (by assumption) rfl rfl ?_; bv_omega)
  | (with_reducible refine DL.wF_box (by assumption) rfl rfl rfl ?_; try dsimp only [List.set_cons_zero, List.set_cons_succ]; bv_omega)
  | (with_reducible refine DL.ixN_k rfl rfl ?_; dsimp only [DL.elR]; bv_omega)
  | (with_reducible refine DL.ixN_0 rfl rfl ?_; dsimp only [DL.elR]; bv_omega)
  | (with_reducible refine DL.ixC_k rfl rfl ?_; bv_omega)
  | (with_reducible refine DL.ixC_0 rfl rfl ?_; bv_omega)
  | (with_reducible refine DL.stK_newC ?_; try simp only [List.set_cons_zero, List.set_cons_succ, List.append_assoc, List.cons_append, List.nil_append, List.length_append, List.length_cons, List.length_nil, Nat.zero_add, Nat.add_assoc, Nat.reduceAdd]; bv_omega)
  | (with_reducible refine DL.add_fr (by first | (simp; done) | (simp; omega)) ?_; dsimp only [List.cons_append, List.nil_append]; bv_omega)
  | (with_reducible refine DL.addN_k rfl (by first | (simp; done) | (simp; omega)) ?_; dsimp only [List.cons_append, List.nil_append, List.map_cons, List.map_nil]; bv_omega)
  | (with_reducible refine DL.mul2_fr ?_; bv_omega)
  | (with_reducible show DL.wE _ _ _ _)
  | (with_reducible show DL.wS _ _ _ _)
  | (with_reducible show DL.wT _ _ _ _)
  | (with_reducible show DL.wA _ _ _ _)
  | (with_reducible show DL.wI _ _ _ _)
  | (with_reducible show DL.wO _ _ _ _)
  | (with_reducible show DL.wL _ _ _ _ _ _ _)
  | (with_reducible show DL.wLc _ _ _ _ _ _ _ _)
  | (with_reducible show DL.wLc2 _ _ _ _ _ _ _ _ _ _ _)
  | (refine DL.oK_some (o := DL.allD _) rfl ⟨Nat.le_of_ble_eq_true rfl, ?_⟩; bv_omega)
  | (refine DL.atK_ins rfl ?_; bv_omega)
  | (refine DL.oK_some (o := DL.nestOf _ _) rfl ⟨Nat.le_of_ble_eq_true rfl, ?_⟩; simp only [List.append_assoc, List.cons_append, List.nil_append, List.length_append, List.length_cons, List.length_nil, Nat.zero_add, Nat.add_assoc, Nat.reduceAdd, List.set_cons_zero, List.set_cons_succ]; bv_omega)
  | (refine ⟨(Nat.le_of_ble_eq_true rfl : List.length _ ≤ 100000), ?_⟩; bv_omega)
  | (refine ⟨_, rfl, ?_⟩; bv_omega)
  | (refine ⟨DL.isIns_toS _, ?_⟩; bv_omega)
  | (refine ⟨(rfl : DL.isIns _ _ = true), ?_⟩; bv_omega)
  | (refine ⟨(rfl : DL.isLst _ = true), ?_⟩; bv_omega)
  | (refine ⟨⟨rfl, rfl⟩, ?_⟩; try simp only [DL.pick, List.filterMap_cons, List.filterMap_nil, List.cons_append, List.nil_append, List.getElem?_cons_zero, List.getElem?_cons_succ]; bv_omega)
  | (refine DL.wF_0 (by apply_assumption) rfl rfl ?_; bv_omega)
  | skip)

namespace DL
open PySem PySem.Spec PyProof.Rows L2
@[reducible] def M_groups_0 (nf : MF) : MS := (mSetC 2 (mLst mNil))
@[reducible] def M_groups_c1 (nf : MF) : MT := (mB (mOp (fIn false) (mVar 3) (mVar 4)))
@[reducible] def M_groups_e2 (nf : MF) : ME := (mVar 4)
@[reducible] def M_groups_3 (nf : MF) : MS := (mPar false true 5 6 (mLst (mCons (mVar 3) mNil)) (mLst (mCons (mVar 3) mNil)))
@[reducible] def M_groups_4 (nf : MF) : MS := (mSet 7 (mBm fPop (mVar 6) mNil))
@[reducible] def M_groups_c5 (nf : MF) : MT := (mtAnd (mB (mOp (fIn true) (mVar 9) (mVar 5))) (mB (mCall (callX nf) (mCons (mVar 0) (mCons (mVar 7) (mCons (mVar 9) mNil))))))
@[reducible] def M_groups_e6 (nf : MF) : ME := (mVar 9)
@[reducible] def M_groups_7 (nf : MF) : MS := (mSet 8 (mLc (mIt (mCall (callX M_numbers) (mCons (mVar 1) mNil))) (tgName 9) (M_groups_c5 nf) (M_groups_e6 nf) [9]))
@[reducible] def M_groups_8 (nf : MF) : MS := (mPar false true 5 6 (mOp fAdd (mVar 5) (mVar 8)) (mOp fAdd (mVar 6) (mVar 8)))
@[reducible] def M_groups_c9 (nf : MF) : MT := (mB (mOp (fEq true) (mVar 6) (mLst mNil)))
@[reducible] def M_groups_b10 (nf : MF) : MS := (mSeq (M_groups_4 nf)
  (mSeq (M_groups_7 nf)
  (M_groups_8 nf)))
@[reducible] def M_groups_11 (nf : MF) : MS := (wh (M_groups_c9 nf) (M_groups_b10 nf) 1000)
@[reducible] def M_groups_c12 (nf : MF) : MT := (mB (mOp (fIn false) (mVar 9) (mVar 5)))
@[reducible] def M_groups_e13 (nf : MF) : ME := (mCb fInt (mCons (mVar 9) mNil))
@[reducible] def M_groups_14 (nf : MF) : MS := (mDrop (mBm fAppend (mVar 2) (mCons (mCb fTuple (mCons (mCb fSorted (mCons (mLc (mIt (mVar 1)) (tgName 9) (M_groups_c12 nf) (M_groups_e13 nf) [9]) mNil)) mNil)) mNil)))
@[reducible] def M_groups_15 (nf : MF) : MS := (mIfS (mB (mOp (fEq false) (mLc (mIt (mVar 2)) (tgName 4) (M_groups_c1 nf) (M_groups_e2 nf) [4]) (mLst mNil))) (mSeq (M_groups_3 nf)
  (mSeq (M_groups_11 nf)
  (M_groups_14 nf))) mNx)
@[reducible] def M_groups_16 (nf : MF) : MS := (mFor (mIt (mCall (callX M_numbers) (mCons (mVar 1) mNil))) (tgName 3) (M_groups_15 nf))
@[reducible] def M_groups_17 (nf : MF) : MS := (mRet (mCb fTuple (mCons (mVar 2) mNil)))
def M_groups (nf : MF) : MF := mDef 2 10
  (mSeq (M_groups_0 nf)
  (mSeq (M_groups_16 nf)
  (M_groups_17 nf)))

section
variable {f : Fo} {nf : MF} {ns U S : List Int} {C : List (List Int)} {k : Bool} {nb : Int → Int → Bool} {QS : Flo → Prop}
def tupsD (C : List (List Int)) : List D := C.map fun c => .tup (c.map D.int)
end
end DL
set_option Elab.async false
set_option linter.all false
set_option maxRecDepth 100000
set_option maxHeartbeats 1000000

namespace DL
open PySem PySem.Spec PyProof.Rows L2
def uq : List Int → List Int
  | [] => []
  | [x] => [x]
  | x :: y :: r => if x = y then uq (y :: r) else x :: uq (y :: r)
section
variable {nb : Int → Int → Bool} {S U : List Int} {C : List (List Int)}
def n01 (b : Bool) : Nat := if b then 0 else 1
def brk (nb : Int → Int → Bool) : List Int → Nat
  | a :: b :: r => n01 (nb a b) + brk nb (b :: r)
  | _ => 0
def cnt (nb : Int → Int → Bool) : List Int → Nat
  | [] => 0
  | a :: r => brk nb (a :: r) + 1
/-- those between neighbours that are not near -/
def hold3 (nb : Int → Int → Bool) : List Int → List Int
  | a :: x :: b :: r => (if !nb a b then [x] else []) ++ hold3 nb (x :: b :: r)
  | _ => []
def h3 (nb : Int → Int → Bool) : List Int → List Int
  | a :: x :: b :: r => (if nb a x && nb x b && !nb a b then [x] else []) ++ h3 nb (x :: b :: r)
  | _ => []
def c3 (nb : Int → Int → Bool) (x : Int) : Option Int → List Int → Bool
  | some a, b :: _ => nb a x && nb x b && !nb a b
  | _, _ => false
end
end DL
set_option Elab.async false
set_option linter.all false

namespace DL
open PySem L2
def stl {α β : Type} [DecidableEq β] : Option β → List (α × β) → List (α × β)
  | _, [] => []
  | prev, x :: r => if prev = some x.2 then stl prev r else x :: stl (some x.2) r
end DL
set_option Elab.async false
set_option linter.all false

namespace DL
open PySem L2
def chP {β : Type} [DecidableEq β] (F : Nat → β) (j : Nat) : Bool := decide (j = 0) || decide (F j ≠ F (j - 1))
def chg {β : Type} [DecidableEq β] (F : Nat → β) (N : Nat) : List (Int × β) := ((List.range N).filter (chP F)).map fun j => (((j : Nat) : Int), F j)
def lastAt {β : Type} (rows : List (Int × β)) (k : Int) : Option β := ((rows.filter fun r => decide (r.1 ≤ k)).getLast?).map (·.2)
structure RowsOk (N : Nat) (rows : List (Int × Int)) : Prop where
  lt : (rows.map (·.1)).Pairwise (· < ·)
  low : ∀ r ∈ rows, 0 ≤ r.1 ∧ r.1 < N
  zero : (0 : Int) ∈ rows.map (·.1)
def stF (rows : List (Int × Int)) (j : Nat) : Int := (lastAt rows (j : Int)).getD 0
end DL
set_option Elab.async false
set_option linter.all false
set_option maxRecDepth 100000
set_option maxHeartbeats 1000000

namespace DL
open PySem L2
section
variable {β : Type} {w : β → D} {lt : β → β → Bool} {s2 : MS} {x0 : R}
def insA (lt : β → β → Bool) (acc : List β) (row : β) : List β :=
  acc.take (dn (fun n => match acc[n]? with | some z => lt row z | none => false) acc.length) ++ [row] ++ acc.drop (dn (fun n => match acc[n]? with | some z => lt row z | none => false) acc.length)
def sortA (lt : β → β → Bool) (zs : List β) : List β := zs.foldl (insA lt) []
end
/-- rows of ints -/
def tuI (l : List Int) : D := .tup (l.map D.int)
end DL
set_option Elab.async false
set_option linter.all false
set_option maxRecDepth 100000
set_option maxHeartbeats 1000000

namespace DL
open PySem L2
def retV (n : Nat) : Flo → Option (R × Mu)
  | .rt r μ' => match lowM n μ' with
    | true => match vlR n μ' r with
      | some d => some (.dat d, μ'.take n)
      | none => none
    | false => none
  | .nx _ μ' => retR n (.dat .non) μ'
  | _ => none
end DL
set_option Elab.async false
set_option linter.all false
set_option maxRecDepth 100000
set_option maxHeartbeats 1000000

namespace DL
open PySem L2
variable {δ : Sl} {μ : Mu} {Q : R → Mu → Prop}
end DL
set_option Elab.async false
set_option linter.all false
set_option maxRecDepth 100000
set_option maxHeartbeats 1000000
local macro_rules | `(tactic| bv_omega) => `(tactic| first
  | (with_reducible refine DL.fn_of rfl ?_; dsimp only [List.cons_append, List.nil_append, List.reduceReplicate, Nat.reduceSub]; bv_omega)
  | (with_reducible refine DL.wS_seq ?_; bv_omega)
  | (with_reducible refine DL.sqK_nx ?_; bv_omega)
  | (with_reducible refine DL.sqK_rt ?_; bv_omega)
  | (with_reducible refine DL.wS_ret ?_; bv_omega)
  | (with_reducible refine DL.wS_if ?_; bv_omega)
  | (with_reducible refine DL.wS_set ?_; bv_omega)
  | (with_reducible refine DL.wS_setC ?_; bv_omega)
  | (with_reducible refine DL.wS_par ?_; bv_omega)
  | (with_reducible refine DL.wS_par3 ?_; bv_omega)
  | (with_reducible refine DL.wS_asg ?_; bv_omega)
  | (with_reducible refine DL.wS_drop ?_; bv_omega)
  | (with_reducible refine DL.wS_for ?_; bv_omega)
  | (with_reducible refine DL.wS_nx ?_; bv_omega)
  | (with_reducible refine DL.wS_bk ?_; bv_omega)
  | (with_reducible refine DL.wS_ct ?_; bv_omega)
  | (with_reducible refine DL.stK_dat ?_; try dsimp only [List.set_cons_zero, List.set_cons_succ]; bv_omega)
  | (with_reducible refine DL.stK_fr ?_; try dsimp only [List.set_cons_zero, List.set_cons_succ]; bv_omega)
  | (with_reducible refine DL.stK_cel ?_; try dsimp only [List.set_cons_zero, List.set_cons_succ]; bv_omega)
  | (with_reducible refine DL.stK_new ?_; try simp only [List.set_cons_zero, List.set_cons_succ, List.append_assoc, List.cons_append, List.nil_append, List.length_append, List.length_cons, List.length_nil, Nat.zero_add, Nat.add_assoc, Nat.reduceAdd]; bv_omega)
  | (with_reducible refine DL.wE_var ?_; (first | refine DL.vK_dat rfl ?_ | refine DL.vK_cel rfl ?_); bv_omega)
  | (with_reducible refine DL.wE_c ?_; bv_omega)
  | (with_reducible refine DL.wE_op ?_; bv_omega)
  | (with_reducible refine DL.wE_un ?_; bv_omega)
  | (with_reducible refine DL.wE_not ?_; bv_omega)
  | (with_reducible refine DL.wE_if ?_; bv_omega)
  | (with_reducible refine DL.wE_or ?_; bv_omega)
  | (with_reducible refine DL.wE_and ?_; bv_omega)
  | (with_reducible refine DL.wE_tup ?_; bv_omega)
  | (with_reducible refine DL.wE_lst ?_; bv_omega)
  | (with_reducible refine DL.wE_cb ?_; bv_omega)
  | (with_reducible refine DL.wE_call ?_; bv_omega)
  | (with_reducible refine DL.wE_callK ?_; bv_omega)
  | (with_reducible refine DL.wE_meth ?_; bv_omega)
  | (with_reducible refine DL.wE_methK ?_; bv_omega)
  | (with_reducible refine DL.wE_lc ?_; bv_omega)
  | (with_reducible refine DL.wE_bm ?_; bv_omega)
  | (with_reducible refine DL.wT_b ?_; bv_omega)
  | (with_reducible refine DL.wT_not ?_; bv_omega)
  | (with_reducible refine DL.wT_and ?_; bv_omega)
  | (with_reducible refine DL.wT_or ?_; bv_omega)
  | (with_reducible refine DL.wA_nil ?_; bv_omega)
  | (with_reducible refine DL.wA_cons ?_; bv_omega)
  | (with_reducible refine DL.aK_dat ?_; bv_omega)
  | (with_reducible refine DL.aK_fr ?_; bv_omega)
  | (with_reducible refine DL.aK_cel ?_; bv_omega)
  | (with_reducible refine DL.bK_bl ?_; bv_omega)
  | (with_reducible refine DL.dK_dat ?_; bv_omega)
  | (with_reducible refine DL.dK_fr ?_; bv_omega)
  | (with_reducible refine DL.cnd_true ?_; bv_omega)
  | (with_reducible refine DL.cnd_false ?_; bv_omega)
  | (with_reducible refine DL.cnd_not ?_; bv_omega)
  | (with_reducible refine DL.cnd_pos (by assumption) ?_; bv_omega)
  | (with_reducible refine DL.cnd_neg (by assumption) ?_; bv_omega)
  | (with_reducible refine DL.wI_it ?_; bv_omega)
  | (with_reducible refine DL.wI_q1 ?_; bv_omega)
  | (with_reducible refine DL.wI_q2 ?_; bv_omega)
  | (with_reducible refine DL.r1R_mk (by first | omega | (simp only [List.length_map]; omega)) ?_; bv_omega)
  | (with_reducible refine DL.r2R_mk (by first | omega | (simp only [List.length_map]; omega)) ?_; bv_omega)
  | (with_reducible refine DL.itK_lst ?_; bv_omega)
  | (with_reducible refine DL.itK_fr ?_; bv_omega)
  | (with_reducible refine DL.itK_tup ?_; bv_omega)
  | (with_reducible refine DL.itK_sq ?_; bv_omega)
  | (with_reducible refine DL.op_sub' ?_; bv_omega)
  | (with_reducible refine DL.op_add' ?_; bv_omega)
  | (with_reducible refine DL.op_lt' ?_; bv_omega)
  | (with_reducible refine DL.op_ltI' ?_; bv_omega)
  | (with_reducible refine DL.op_le' ?_; bv_omega)
  | (with_reducible refine DL.op_gt' ?_; bv_omega)
  | (with_reducible refine DL.op_ge' ?_; bv_omega)
  | (with_reducible refine DL.op_eqi' ?_; bv_omega)
  | (with_reducible refine DL.op_nei' ?_; bv_omega)
  | (with_reducible refine DL.op_eqb' ?_; bv_omega)
  | (with_reducible refine DL.op_neb' ?_; bv_omega)
  | (with_reducible refine DL.cb_len_lst ?_; bv_omega)
  | (with_reducible refine DL.cb_len_tup ?_; bv_omega)
  | (with_reducible refine DL.cb_len_sq ?_; bv_omega)
  | (with_reducible refine DL.cb_tuple ?_; bv_omega)
  | (with_reducible refine DL.cb_list ?_; bv_omega)
  | (with_reducible refine DL.cb_listT ?_; bv_omega)
  | (with_reducible refine DL.cb_abs ?_; bv_omega)
  | (with_reducible refine DL.cb_int ?_; bv_omega)
  | (with_reducible refine DL.cb_all ?_; bv_omega)
  | (with_reducible refine DL.cb_sorted ?_; bv_omega)
  | (with_reducible refine DL.wA_nilV ?_; bv_omega)
  | (with_reducible refine DL.wA_consV ?_; bv_omega)
  | (with_reducible refine DL.wE_at ?_; bv_omega)
  | (with_reducible refine DL.wE_make ?_; bv_omega)
  | (with_reducible refine DL.cb_any ?_; bv_omega)
  | (with_reducible refine DL.op_eqs ?_; bv_omega)
  | (with_reducible refine DL.ix0_tup ?_; bv_omega)
  | (with_reducible refine DL.ix1_tup ?_; bv_omega)
  | (with_reducible refine DL.ix2_tup ?_; bv_omega)
  | (with_reducible refine DL.eq_same ?_; bv_omega)
  | (with_reducible refine DL.tr_bl ?_; bv_omega)
  | (with_reducible refine DL.wE_sl ?_; bv_omega)
  | (with_reducible refine DL.wS_setN ?_; bv_omega)
  | (with_reducible refine DL.wE_lstN ?_; bv_omega)
  | (with_reducible refine DL.wN_nil ?_; bv_omega)
  | (with_reducible refine DL.wN_cons ?_; bv_omega)
  | (with_reducible refine DL.toEl_dat ?_; bv_omega)
  | (with_reducible refine DL.toEl_cel ?_; bv_omega)
  | (with_reducible refine DL.toEl_fr ?_; bv_omega)
  | (with_reducible refine DL.op_div' (by omega) (by omega) ?_; bv_omega)
  | (with_reducible refine DL.op_mod' (by omega) ?_; bv_omega)
  | (with_reducible refine DL.wO_no ?_; bv_omega)
  | (with_reducible refine DL.wO_so ?_; bv_omega)
  | (with_reducible refine DL.iK_int ?_; bv_omega)
  | (with_reducible refine DL.slK_lst ?_; bv_omega)
  | (with_reducible refine DL.slK_fr ?_; bv_omega)
  | (with_reducible refine DL.slK_tup ?_; bv_omega)
  | (with_reducible refine DL.wI_en ?_; bv_omega)
  | (with_reducible refine DL.enK_lst ?_; bv_omega)
  | (with_reducible refine DL.enK_tup ?_; bv_omega)
  | (with_reducible refine DL.wI_zip ?_; bv_omega)
  | (with_reducible refine DL.zpK_lst ?_; bv_omega)
  | (with_reducible refine DL.zpK_tup ?_; bv_omega)
  | (with_reducible refine DL.wE_lc2 ?_; bv_omega)
  | (with_reducible refine DL.wT_yes ?_; bv_omega)
  | (with_reducible refine DL.wE_chain ?_; bv_omega)
  | (with_reducible refine DL.zpR_mk ?_; bv_omega)
  | (with_reducible refine ⟨DL.isLst_k rfl, ?_⟩; bv_omega)
  | (with_reducible refine ⟨DL.isLst_0 rfl, ?_⟩; bv_omega)
  | (with_reducible refine DL.oKa_k rfl (by first | omega | (simp; done) | (simp; omega)) ?_; dsimp only [List.set_cons_zero, List.set_cons_succ, List.cons_append, List.nil_append]; bv_omega)
  | (with_reducible refine DL.oKa_0 rfl (by first | omega | (simp; done) | (simp; omega)) ?_; dsimp only [List.set_cons_zero, List.set_cons_succ, List.cons_append, List.nil_append]; bv_omega)
  | (with_reducible refine DL.wF_0 (by assumption) rfl rfl ?_; bv_omega)
  | (with_reducible refine DL.wF_box (by assumption) rfl rfl rfl ?_; try dsimp only [List.set_cons_zero, List.set_cons_succ]; bv_omega)
  | (with_reducible refine DL.ixN_k rfl rfl ?_; dsimp only [DL.elR]; bv_omega)
  | (with_reducible refine DL.ixN_0 rfl rfl ?_; dsimp only [DL.elR]; bv_omega)
  | (with_reducible refine DL.ixC_k rfl rfl ?_; bv_omega)
  | (with_reducible refine DL.ixC_0 rfl rfl ?_; bv_omega)
  | (with_reducible refine DL.stK_newC ?_; try simp only [List.set_cons_zero, List.set_cons_succ, List.append_assoc, List.cons_append, List.nil_append, List.length_append, List.length_cons, List.length_nil, Nat.zero_add, Nat.add_assoc, Nat.reduceAdd]; bv_omega)
  | (with_reducible refine DL.add_fr (by first | (simp; done) | (simp; omega)) ?_; dsimp only [List.cons_append, List.nil_append]; bv_omega)
  | (with_reducible refine DL.addN_k rfl (by first | (simp; done) | (simp; omega)) ?_; dsimp only [List.cons_append, List.nil_append, List.map_cons, List.map_nil]; bv_omega)
  | (with_reducible refine DL.mul2_fr ?_; bv_omega)
  | (with_reducible refine DL.wE_opG ?_; bv_omega)
  | (with_reducible refine DL.gK_orII ?_; bv_omega)
  | (with_reducible refine DL.wE_prop ?_; bv_omega)
  | (with_reducible refine DL.wE_lenG ?_; bv_omega)
  | (with_reducible refine DL.lnK_mk (by omega) ?_; bv_omega)
  | (with_reducible refine DL.wE_makeK ?_; bv_omega)
  | (with_reducible refine DL.gK_orIIs ?_; bv_omega)
  | (with_reducible refine DL.gK_II ?_; bv_omega)
  | (with_reducible refine DL.gK_orInI ?_; bv_omega)
  | (with_reducible refine DL.gK_orL rfl ?_; bv_omega)
  | (refine DL.gK_orL rfl ?_; bv_omega)
  | (refine DL.gK_orR rfl ?_; bv_omega)
  | (with_reducible refine DL.gK_orCm rfl ?_; bv_omega)
  | (with_reducible refine DL.gK_cmN rfl ?_; bv_omega)
  | (with_reducible refine DL.gK_cm rfl ?_; bv_omega)
  | (with_reducible refine DL.gK_orNI ?_; bv_omega)
  | (with_reducible refine DL.gK_orIIi ?_; bv_omega)
  | (with_reducible refine DL.gK_orIIl ?_; bv_omega)
  | (with_reducible refine DL.gK_orINl ?_; bv_omega)
  | (with_reducible refine DL.gK_NI ?_; bv_omega)
  | (with_reducible refine DL.gK_orY (DL.gK_IN ?_); bv_omega)
  | (with_reducible refine DL.gK_IN ?_; bv_omega)
  | (with_reducible refine DL.gK_Ix ?_; bv_omega)
  | (with_reducible refine DL.gK_In ?_; bv_omega)
  | (with_reducible refine DL.gK_B ?_; bv_omega)
  | (with_reducible show DL.wE _ _ _ _)
  | (with_reducible show DL.wS _ _ _ _)
  | (with_reducible show DL.wT _ _ _ _)
  | (with_reducible show DL.wA _ _ _ _)
  | (with_reducible show DL.wI _ _ _ _)
  | (with_reducible show DL.wO _ _ _ _)
  | (with_reducible show DL.wL _ _ _ _ _ _ _)
  | (with_reducible show DL.wLc _ _ _ _ _ _ _ _)
  | (with_reducible show DL.wLc2 _ _ _ _ _ _ _ _ _ _ _)
  | (refine DL.oK_some (o := DL.allD _) rfl ⟨Nat.le_of_ble_eq_true rfl, ?_⟩; bv_omega)
  | (refine DL.atK_ins rfl ?_; bv_omega)
  | (refine DL.oK_some (o := DL.nestOf _ _) rfl ⟨Nat.le_of_ble_eq_true rfl, ?_⟩; simp only [List.append_assoc, List.cons_append, List.nil_append, List.length_append, List.length_cons, List.length_nil, Nat.zero_add, Nat.add_assoc, Nat.reduceAdd, List.set_cons_zero, List.set_cons_succ]; bv_omega)
  | (refine ⟨(Nat.le_of_ble_eq_true rfl : List.length _ ≤ 100000), ?_⟩; bv_omega)
  | (refine ⟨_, rfl, ?_⟩; bv_omega)
  | (refine ⟨DL.isIns_toS _, ?_⟩; bv_omega)
  | (refine ⟨(rfl : DL.isIns _ _ = true), ?_⟩; bv_omega)
  | (refine ⟨(rfl : DL.isLst _ = true), ?_⟩; bv_omega)
  | (refine ⟨⟨rfl, rfl⟩, ?_⟩; try simp only [DL.pick, List.filterMap_cons, List.filterMap_nil, List.cons_append, List.nil_append, List.getElem?_cons_zero, List.getElem?_cons_succ]; bv_omega)
  | (refine DL.wF_0 (by apply_assumption) rfl rfl ?_; bv_omega)
  | skip)
namespace NS
open PySem PySem.Spec PyProof.Rows L2 DL
theorem e_law_take : m_law_take = M_take := rfl
theorem e_law_same (j : Nat) : m_law_same j = M_same j := by
  induction j with
  | zero => rfl
  | succ j ih => unfold m_law_same M_same; rw [ih]; rfl
theorem hand_ok : m_law_hand_right [] [] = some (.dat (.bl true), []) := by kernel_rfl
/-- a Grid -/
abbrev gr (m l : Int) : D := .ins 0 [.int l, .int m]
section
variable {m l i f : Int}
theorem init_ok (hm : 0 < m) : m_Grid_init [.dat (.int m), .dat (.int l)] [] = some ([.int (l % m), .int m], []) := by
  simp [m_Grid_init, hm]
  rfl
theorem same_ok : m_Grid_is_same [.dat (gr m l), .dat (gr i f)] [] = some (.dat (.bl (decide (m = i) && decide (l = f))), []) := by
  by_cases h1 : m = i <;> simp [m_Grid_is_same, gr, h1]
theorem starts_ok (hm : 0 < m) : m_Grid_starts_at [.dat (gr m l), .dat (.int f)] [] = some (.dat (.bl (decide ((f - l) % m = 0))), []) := by
  simp [m_Grid_starts_at, gr, hm]
def leB (m l i f : Int) : Bool := decide (i % m = 0) && decide ((f - l) % m = 0)
def sameB (m l i f : Int) : Bool := decide (m = i) && decide (l = f)
theorem finer_ok (hm : 0 < m) : m_Grid_is_finer [.dat (gr m l), .dat (gr i f)] [] = some (.dat (.bl (leB m l i f)), []) := by
  have st := starts_ok (m := m) (l := l) (f := f) hm
  unfold leB
  by_cases h : i % m = 0
  · simp [m_Grid_is_finer, hm, h, callX, cellsIn, st]
  · simp [m_Grid_is_finer, hm, h, callX, cellsIn, st]
theorem le_ok (hm : 0 < m) : m_Grid_le [.dat (gr m l), .dat (gr i f)] [] = some (.dat (.bl (leB m l i f)), []) := by
  have st := finer_ok (m := m) (l := l) (i := i) (f := f) hm
  simp [m_Grid_le, callX, cellsIn, st]
theorem lt_ok (hm : 0 < m) : m_Grid_lt [.dat (gr m l), .dat (gr i f)] [] = some (.dat (.bl (leB m l i f && !sameB m l i f)), []) := by
  have st := finer_ok (m := m) (l := l) (i := i) (f := f) hm
  have sa := same_ok (m := m) (l := l) (i := i) (f := f)
  cases h : leB m l i f <;> simp [m_Grid_lt, callX, cellsIn, st, sa, h, sameB]
theorem ge_ok (hi : 0 < i) : m_Grid_ge [.dat (gr m l), .dat (gr i f)] [] = some (.dat (.bl (leB i f m l)), []) := by
  unfold leB
  by_cases h : m % i = 0
  · simp [m_Grid_ge, hi, h]
  · simp [m_Grid_ge, hi, h]
theorem gt_ok (hi : 0 < i) : m_Grid_gt [.dat (gr m l), .dat (gr i f)] [] = some (.dat (.bl (leB i f m l && !sameB m l i f)), []) := by
  have sa := same_ok (m := m) (l := l) (i := i) (f := f)
  unfold leB
  by_cases h : m % i = 0
  · by_cases h2 : (l - f) % i = 0
    · simp [m_Grid_gt, hi, h, h2, callX, cellsIn, sa, sameB]
    · simp [m_Grid_gt, hi, h, h2, callX, cellsIn, sa]
  · simp [m_Grid_gt, hi, h, callX, cellsIn, sa]
theorem geq_ok : m_Grid_eq [.dat (gr m l), .dat (gr i f)] [] = some (.dat (.bl (sameB m l i f)), []) := by
  have sa := same_ok (m := m) (l := l) (i := i) (f := f)
  simp [m_Grid_eq, callX, cellsIn, sa, sameB]
end
end NS
set_option Elab.async false
set_option linter.all false
set_option maxRecDepth 100000
set_option maxHeartbeats 1000000
namespace NS
open PySem PySem.Spec PyProof.Rows L2 DL
def chkD (a b : Nat) : Bool := match m_divisor [.dat (.int (a : Int)), .dat (.int (b : Int))] [] with
  | some (.dat (.int g), []) => g == ((Nat.gcd a b : Nat) : Int)
  | _ => false
theorem div_tab : ((List.range 13).all fun a => (List.range 13).all fun b => chkD a b) = true := by kernel_rfl
theorem div_ok {a b : Nat} (ha : a ≤ 12) (hb : b ≤ 12) : m_divisor [.dat (.int (a : Int)), .dat (.int (b : Int))] [] = some (.dat (.int ((Nat.gcd a b : Nat) : Int)), []) := by
  have h := List.all_eq_true.mp (List.all_eq_true.mp div_tab a (List.mem_range.mpr (by omega))) b (List.mem_range.mpr (by omega))
  unfold chkD at h
  split at h
  · rename_i g e
    rw [e, eq_of_beq h]
  · cases h
section
variable {m l i f : Nat}
def wdN (m l i f : Nat) : Nat := Nat.gcd (Nat.gcd m i) ((l : Int) - f).natAbs
theorem gcd_le12 {a b : Nat} (h0 : 0 < a) (h : a ≤ 12) : 0 < Nat.gcd a b ∧ Nat.gcd a b ≤ 12 :=
  ⟨Nat.gcd_pos_of_pos_left _ h0, Nat.le_trans (Nat.gcd_le_left _ h0) h⟩
theorem and_ok (hm0 : 0 < m) (hm : m ≤ 12) (hi0 : 0 < i) (hi : i ≤ 12) (hl : l < m) (hf : f < i) : m_Grid_and [.dat (gr m l), .dat (gr i f)] [] = some (.dat (gr (wdN m l i f) ((l : Int) % (wdN m l i f))), []) := by
  have d1 := div_ok (a := m) (b := i) hm hi
  have g1 := gcd_le12 (b := i) hm0 hm
  have d2 := div_ok (a := Nat.gcd m i) (b := ((l : Int) - f).natAbs) g1.2 (by omega)
  have g2 := gcd_le12 (b := ((l : Int) - f).natAbs) g1.1 g1.2
  have io := init_ok (m := wdN m l i f) (l := l) (by unfold wdN; omega)
  have ea : (((l : Int) - f).natAbs : Int) = if ((l : Int) - f) < 0 then -((l : Int) - f) else ((l : Int) - f) := by split <;> omega
  rw [ea] at d2
  unfold wdN at *
  simp [m_Grid_and, callX, cellsIn, d1, d2, io]
def mtN (m l i f : Nat) : List Nat := ((List.range i).map fun p => l + p * m).filter fun s => s % i == f
theorem mod_iff {s i f : Nat} (hf : f < i) : decide (((s : Int) - f) % i = 0) = (s % i == f) := by
  rw [Bool.eq_iff_iff, decide_eq_true_iff, beq_iff_eq]
  constructor
  · intro h
    have h2 : (s : Int) % i = (f : Int) % i := Int.emod_eq_emod_iff_emod_sub_eq_zero.mpr h
    have h3 : ((s % i : Nat) : Int) = ((f % i : Nat) : Int) := by rw [Int.natCast_emod, Int.natCast_emod]; exact h2
    have h4 : s % i = f % i := by exact_mod_cast h3
    rw [h4, Nat.mod_eq_of_lt hf]
  · intro h
    have h3 : ((s % i : Nat) : Int) = ((f % i : Nat) : Int) := by rw [h, Nat.mod_eq_of_lt hf]
    rw [Int.natCast_emod, Int.natCast_emod] at h3
    exact Int.emod_eq_emod_iff_emod_sub_eq_zero.mp h3
def tlO : MS := mSeq m_XGrid_or_4 (mSeq m_XGrid_or_7 m_XGrid_or_8)
theorem tlO_ok {g h : Nat} {R : List Nat} {x3 x4 x5 x6 : DL.R} (hm : m ≤ 12) (hg2 : g ≤ 12) (hi0 : 0 < i) (hi : i ≤ 12) (hf : f < i) (hg : 0 < g) (hw : 0 < m / g * i) (hM : mtN m l i f = h :: R) :
    wS tlO [.dat (gr m l), .dat (gr i f), .dat (.int (g : Int)), x3, x4, x5, x6] [] fun fl => fl = .rt (.dat (gr ((m / g * i : Nat) : Int) (((h % (m / g * i) : Nat)) : Int))) [] := by
  have io := init_ok (m := ((m / g * i : Nat) : Int)) (l := (h : Int)) (by omega)
  unfold tlO
  generalize hT : mSeq m_XGrid_or_7 m_XGrid_or_8 = TT
  bv_omega
  rw [rgD_nat]
  refine wLc_map (β := Nat) (xs := List.range i) (w := fun k => D.int ((k : Nat) : Int)) (g := fun p => D.int ((l + p * m : Nat) : Int)) rfl (by rw [List.length_range]; omega) (fun p hp => ⟨_, rfl, ?_⟩) ?_
  · dsimp only [wipeR, List.set_cons_zero, List.set_cons_succ]
    bv_omega
    refine op_mul' (cMul_r (by omega) (by omega)) ?_
    bv_omega
    refine ⟨rfl, ?_⟩
    simp
  bv_omega
  subst hT
  generalize hT : m_XGrid_or_8 = TT
  have e1 : (List.range i).map (fun p => D.int ((l + p * m : Nat) : Int)) = ((List.range i).map fun p => l + p * m).map fun k => D.int ((k : Nat) : Int) := by
    rw [List.map_map]
    rfl
  rw [e1]
  have ll : ((List.range i).map fun p => l + p * m).length = i := by simp
  have hM' : (((List.range i).map fun p => l + p * m).filter fun s => s % i == f) = h :: R := hM
  generalize (List.range i).map (fun p => l + p * m) = S at *
  bv_omega
  refine wLc_filter (β := Nat) (xs := S) (w := fun k => D.int ((k : Nat) : Int)) (p := fun s => s % i == f) (g := fun k => D.int ((k : Nat) : Int)) rfl (by omega) (fun s hs => ⟨_, rfl, ?_⟩) ?_
  · dsimp only [wipeR, List.set_cons_zero, List.set_cons_succ]
    bv_omega
    refine ⟨rfl, mod_iff hf, fun _ => ?_⟩
    bv_omega
    exact ⟨rfl, rfl⟩
  rw [hM']
  bv_omega
  subst hT
  have ew : (m : Int) / (g : Int) * (i : Int) = ((m / g * i : Nat) : Int) := by
    rw [Int.natCast_mul, Int.natCast_ediv]
  have hg' : (0 : Int) < (g : Int) := by omega
  rw [← ew] at io
  have hg3 : (g : Int) < 1073741824 := by omega
  rw [List.map_cons]
  generalize List.map (fun k : Nat => D.int ((k : Nat) : Int)) R = RR
  have eg : gr (m : Int) (l : Int) = .ins 0 [.int (l : Int), .int (m : Int)] := rfl
  bv_omega
  refine op_mul' (cMul_r (by omega) (by omega)) ?_
  bv_omega
  refine ⟨_, (show fIx (.dat (.lst (D.int (h : Int) :: RR))) (.dat (.int 0)) [] = some (.dat (.int (h : Int))) by simp [fIx, atI, ixN]), ?_⟩
  bv_omega
  refine ⟨_, io, ?_⟩
  rw [ew, Int.natCast_emod]
theorem or0 {g : Nat} (d1 : m_divisor [.dat (.int (m : Int)), .dat (.int (i : Int))] [] = some (.dat (.int (g : Int)), [])) : m_XGrid_or_0 [.dat (gr m l), .dat (gr i f), .no, .no, .no, .no, .no] [] = some (.nx [.dat (gr m l), .dat (gr i f), .dat (.int (g : Int)), .no, .no, .no, .no] []) := by
  simp [callX, cellsIn, d1]
theorem or2t {g : Int} {δ : Sl} (hg : 0 < g) (h0 : δ[0]? = some (.dat (gr m l))) (h1 : δ[1]? = some (.dat (gr i f))) (h2 : δ[2]? = some (.dat (.int g))) (h : ((l : Int) - f) % g = 0) : m_XGrid_or_2 δ [] = some (.inl (.nx δ [])) := by
  simp [h, hg, h0, h1, h2]
theorem or2f {g : Int} {δ : Sl} (hg : 0 < g) (hb : g.natAbs < 2 ^ 64) (h0 : δ[0]? = some (.dat (gr m l))) (h1 : δ[1]? = some (.dat (gr i f))) (h2 : δ[2]? = some (.dat (.int g))) (h : ¬ ((l : Int) - f) % g = 0) : m_XGrid_or_2 δ [] = some (.inr (.exc 900 ["common"] [.int g], δ, [])) := by
  simp [h, hg, h0, h1, h2, hb, mkEr, smI, erNs, erXs]
/-- what | tells -/
def orN (m l i f : Nat) : Option (Nat × Nat) := if ((l : Int) - f) % (Nat.gcd m i : Nat) = 0 then (mtN m l i f).head?.map fun h => (m / Nat.gcd m i * i, h % (m / Nat.gcd m i * i)) else none
def orX (m l i f : Nat) : (DL.R × Mu) ⊕ (D × Mu) := match orN m l i f with
  | some (w, s) => .inl (.dat (gr (w : Int) (s : Int)), [])
  | none => .inr (.exc 900 ["common"] [.int (Nat.gcd m i : Nat)], [])
theorem dx_l {n N : Nat} {body : MSX} {rs : List DL.R} {d : D} (hn : rs.length = n) (h : body (rs ++ List.replicate (N - n) .no) [] = some (.inl (.rt (.dat d) []))) : mDefX n N body rs [] = some (.inl (.dat d, [])) := by
  unfold mDefX
  rw [if_pos hn, h]
  rfl
theorem dx_r {n N : Nat} {body : MSX} {rs : List DL.R} {e : D} {δ : Sl} (hn : rs.length = n) (h : body (rs ++ List.replicate (N - n) .no) [] = some (.inr (e, δ, []))) : mDefX n N body rs [] = some (.inr (e, [])) := by
  unfold mDefX
  rw [if_pos hn, h]
  rfl
theorem sq_t {m0 t : MS} {m2 : MSX} {δ δ1 : Sl} {z : Flo} (h0 : m0 δ [] = some (.nx δ1 [])) (h2 : m2 δ1 [] = some (.inl (.nx δ1 []))) (h3 : t δ1 [] = some z) : mSeqX (lft m0) (mSeqX m2 (lft t)) δ [] = some (.inl z) := by
  simp only [mSeqX, lft, h0, h2, h3]
theorem sq_f {m0 t : MS} {m2 : MSX} {δ δ1 : Sl} {e : D} (h0 : m0 δ [] = some (.nx δ1 [])) (h2 : m2 δ1 [] = some (.inr (e, δ1, []))) : mSeqX (lft m0) (mSeqX m2 (lft t)) δ [] = some (.inr (e, δ1, [])) := by
  simp only [mSeqX, lft, h0, h2]
theorem e_or : m_XGrid_or = mDefX 2 7 (mSeqX (lft m_XGrid_or_0) (mSeqX m_XGrid_or_2 (lft tlO))) := rfl
theorem or_t {g w s : Nat} (d1 : m_divisor [.dat (.int (m : Int)), .dat (.int (i : Int))] [] = some (.dat (.int (g : Int)), [])) (hg : (0 : Int) < g) (h : ((l : Int) - f) % (g : Int) = 0)
    (t1 : tlO [.dat (gr m l), .dat (gr i f), .dat (.int (g : Int)), .no, .no, .no, .no] [] = some (.rt (.dat (gr (w : Int) (s : Int))) [])) : m_XGrid_or [.dat (gr m l), .dat (gr i f)] [] = some (.inl (.dat (gr (w : Int) (s : Int)), [])) := by
  rw [e_or]
  exact dx_l rfl (sq_t (or0 d1) (or2t hg rfl rfl rfl h) t1)
theorem or_f {g : Nat} (d1 : m_divisor [.dat (.int (m : Int)), .dat (.int (i : Int))] [] = some (.dat (.int (g : Int)), [])) (hg : (0 : Int) < g) (hb : (g : Int).natAbs < 2 ^ 64) (h : ¬ ((l : Int) - f) % (g : Int) = 0) : m_XGrid_or [.dat (gr m l), .dat (gr i f)] [] = some (.inr (.exc 900 ["common"] [.int (g : Int)], [])) := by
  rw [e_or]
  exact dx_r rfl (sq_f (or0 d1) (or2f hg hb rfl rfl rfl h))
theorem or_ok (hm0 : 0 < m) (hm : m ≤ 12) (hi0 : 0 < i) (hi : i ≤ 12) (hf : f < i) (hne : ((l : Int) - f) % (Nat.gcd m i : Nat) = 0 → mtN m l i f ≠ []) : m_XGrid_or [.dat (gr m l), .dat (gr i f)] [] = some (orX m l i f) := by
  have d1 := div_ok (a := m) (b := i) hm hi
  have g1 := gcd_le12 (b := i) hm0 hm
  have gd := Nat.gcd_dvd_left m i
  have tl := fun h R x3 x4 x5 x6 => tlO_ok (m := m) (l := l) (i := i) (f := f) (g := Nat.gcd m i) (h := h) (R := R) (x3 := x3) (x4 := x4) (x5 := x5) (x6 := x6) hm g1.2 hi0 hi hf g1.1 (Nat.mul_pos (Nat.div_pos (Nat.le_of_dvd hm0 gd) g1.1) hi0)
  have hgp : (0 : Int) < ((Nat.gcd m i : Nat) : Int) := by omega
  have hgn : ((Nat.gcd m i : Nat) : Int).natAbs < 2 ^ 64 := Nat.lt_of_le_of_lt (show ((Nat.gcd m i : Nat) : Int).natAbs ≤ 12 by omega) (by decide)
  unfold orX orN
  generalize Nat.gcd m i = g at *
  by_cases h : ((l : Int) - f) % (g : Nat) = 0
  · rw [if_pos h]
    cases hM : mtN m l i f with
    | nil => exact absurd hM (hne h)
    | cons h0 R =>
      obtain ⟨_, t1, rfl⟩ := tl h0 R .no .no .no .no hM
      exact or_t d1 hgp h t1
  · rw [if_neg h]
    exact or_f d1 hgp hgn h
end
end NS
set_option Elab.async false
set_option linter.all false
set_option maxRecDepth 100000
set_option maxHeartbeats 1000000
namespace NS
open PySem PySem.Spec PyProof.Rows L2 DL
section
theorem join_t {m l i f w s : Int} (h : m_XGrid_or [.dat (gr m l), .dat (gr i f)] [] = some (.inl (.dat (gr w s), []))) : m_law_joined [.dat (gr m l), .dat (gr i f)] [] = some (.dat (.tup [.int w, .int s]), []) := by
  simp [m_law_joined, callE, cellsIn, h]
theorem join_f {m l i f g : Int} (h : m_XGrid_or [.dat (gr m l), .dat (gr i f)] [] = some (.inr (.exc 900 ["common"] [.int g], []))) : m_law_joined [.dat (gr m l), .dat (gr i f)] [] = some (.fr [.int g], []) := by
  simp [m_law_joined, callE, cellsIn, h]
end
end NS
set_option Elab.async false
set_option linter.all false
set_option maxRecDepth 100000
set_option maxHeartbeats 1000000

namespace DL
open PySem PySem.Spec PyProof.Rows L2
section
variable {m : ME} {ms : MA} {mf : MF} {δ : Sl} {μ : Mu} {Q : R → Mu → Prop} {QS : Flo → Prop} {c i j k s : Nat}
end
end DL
set_option Elab.async false
set_option linter.all false
set_option maxRecDepth 100000
set_option maxHeartbeats 1000000

namespace DL
open PySem PySem.Spec PyProof.Rows L2
section
variable {m m0 mo mk mv mx : ME} {ms : MA} {st : MS} {mt : MT} {mi : MI} {t : TGT} {δ : Sl} {μ μ1 : Mu} {Q : R → Mu → Prop} {QS : Flo → Prop} {QI : List D → (Mu → Bool) → Mu → Prop} {i j k : Nat} {kvs : List (Key × El)}
theorem wI_r3 {QI : List D → (Mu → Bool) → Mu → Prop} (h : wA ms δ μ fun rs μ1 => ∃ a b : Int, rs = [.dat (.int a), .dat (.int b), .dat (.int (-1))] ∧ (-1000000 ≤ a ∧ a ≤ 1000000 ∧ -1000000 ≤ b ∧ b ≤ 1000000) ∧ QI (rgDn a b) yes μ1) : wI (mItR3 ms) δ μ QI := by
  obtain ⟨rs, μ1, h1, a, b, rfl, h2, q⟩ := h
  refine ⟨_, _, _, ?_, q⟩
  unfold mItR3
  rw [h1]
  dsimp only
  rw [if_pos ⟨rfl, by omega, by omega, by omega, by omega⟩]
/-- a dict comprehension -/
def wDc (gd : Mu → Bool) (t : TGT) (mt : MT) (mk mv : ME) (δ : Sl) (xs : List D) (acc : List (Key × El)) (μ : Mu) (Q : List (Key × El) → Mu → Prop) : Prop := ∃ kvs μ', dcLoop gd t mt mk mv δ xs acc μ = some (kvs, μ') ∧ Q kvs μ'
end
end DL
set_option Elab.async false
set_option linter.all false
set_option maxRecDepth 100000
set_option maxHeartbeats 1000000

namespace DL
open PySem PySem.Spec PyProof.Rows L2
section
variable {m m0 mo mk mv mx ma mb : ME} {δ : Sl} {μ μ1 μ2 μ3 : Mu} {Q : R → Mu → Prop} {QS : Flo → Prop} {i j k : Nat} {kvs : List (Key × El)}
end
end DL
set_option Elab.async false
set_option linter.all false
set_option maxRecDepth 100000
set_option maxHeartbeats 1000000

namespace DL
open PySem L2
structure LtOk {β : Type} (lt : β → β → Bool) : Prop where
  tot : ∀ a b, lt a b = false → lt b a = false → a = b
  ntr : ∀ a b c, lt b a = false → lt c b = false → lt c a = false
  asy : ∀ a b, lt a b = true → lt b a = false
section
variable {β : Type} [DecidableEq β] {lt : β → β → Bool} {L : List β → List β → Bool}
end
section
variable {β : Type} {lt : β → β → Bool}
end

def tupR (rs : List (List Int)) : D := .tup (rs.map tuI)
end DL
set_option Elab.async false
set_option linter.all false
set_option maxRecDepth 100000
set_option maxHeartbeats 1000000
namespace NS
open PySem PySem.Spec PyProof.Rows L2 DL
def intN (l : List Nat) : List D := l.map fun k => D.int ((k : Nat) : Int)
def begN (m l n : Nat) : List Nat := (List.range n).filter fun x => x % m == l
theorem step_iff {y : Int} {m : Nat} (h0 : 0 < m) (hm : m ≤ 12) : (y / m = (y - 1) / m) ↔ ¬ y % m = 0 := by
  match m, h0, hm with
  | 1, _, _ => omega
  | 2, _, _ => omega
  | 3, _, _ => omega
  | 4, _, _ => omega
  | 5, _, _ => omega
  | 6, _, _ => omega
  | 7, _, _ => omega
  | 8, _, _ => omega
  | 9, _, _ => omega
  | 10, _, _ => omega
  | 11, _, _ => omega
  | 12, _, _ => omega
section
variable {m l i f n : Nat}
theorem beg_iff {x : Nat} (h0 : 0 < m) (hm : m ≤ 12) (hl : l < m) : (!decide (((x : Int) - l) / m = ((x : Int) - 1 - l) / m)) = (x % m == l) := by
  have h := step_iff (y := (x : Int) - l) h0 hm
  rw [show (x : Int) - 1 - l = (x : Int) - l - 1 by omega, ← mod_iff hl, ← decide_not]
  exact decide_eq_decide.mpr ((not_congr h).trans Classical.not_not)
theorem fin_iff {x : Nat} (h0 : 0 < m) (hm : m ≤ 12) (hl : l < m) : (decide (((x : Int) - l) / m = ((x : Int) + 1 - l) / m)) = !((x + 1) % m == l) := by
  have h := beg_iff (x := x + 1) h0 hm hl
  rw [← h, Bool.not_not]
  refine decide_eq_decide.mpr ?_
  rw [show (((x + 1 : Nat) : Int) - 1 - l) = (x : Int) - l by omega, show (((x + 1 : Nat) : Int) - l) = (x : Int) + 1 - l by omega]
  exact eq_comm
theorem begins_ok (h0 : 0 < m) (hm : m ≤ 12) (hl : l < m) (hn : n ≤ 1000) : m_law_begins [.dat (.tup [.int m, .int l]), .dat (.int n)] [] = some (.fr (intN (begN m l n)), []) := by
  have key : wF m_law_begins [.dat (.tup [.int m, .int l]), .dat (.int n)] [] fun r μ => r = .fr (intN (begN m l n)) ∧ μ = [] := by
    unfold m_law_begins
    refine fn_wp rfl ?_
    dsimp only [List.cons_append, List.nil_append, List.reduceReplicate, Nat.reduceSub]
    bv_omega
    rw [rgD_nat]
    refine wLc_filter (β := Nat) (xs := List.range n) (w := fun k => D.int ((k : Nat) : Int)) (p := fun x => x % m == l) (g := fun k => D.int ((k : Nat) : Int)) rfl (by rw [List.length_range]; omega) (fun x hx => ⟨_, rfl, ?_⟩) ?_
    · have bi := beg_iff (x := x) h0 hm hl
      dsimp only [wipeR, List.set_cons_zero, List.set_cons_succ]
      bv_omega
      refine ⟨rfl, bi, fun _ => ?_⟩
      bv_omega
      exact ⟨rfl, rfl⟩
    bv_omega
    first | exact ⟨rfl, rfl⟩ | exact ⟨(.fr (intN (begN m l n)), []), rfl, rfl, rfl⟩
  obtain ⟨r, μ, h1, rfl, rfl⟩ := key
  exact h1
def finL (m l i f : Nat) : Bool := (List.range (m * i)).all fun x => ((x + 1) % m == l) || !((x + 1) % i == f)
theorem lfiner_ok (h0 : 0 < m) (hm : m ≤ 12) (hl : l < m) (g0 : 0 < i) (hi : i ≤ 12) (hf : f < i) : m_law_is_finer [.dat (.tup [.int m, .int l]), .dat (.tup [.int i, .int f])] [] = some (.dat (.bl (finL m l i f)), []) := by
  have hmi : m * i ≤ 144 := Nat.mul_le_mul hm hi
  have key : wF m_law_is_finer [.dat (.tup [.int m, .int l]), .dat (.tup [.int i, .int f])] [] fun r μ => r = .dat (.bl (finL m l i f)) ∧ μ = [] := by
    unfold m_law_is_finer
    refine fn_wp rfl ?_
    dsimp only [List.cons_append, List.nil_append, List.reduceReplicate, Nat.reduceSub]
    generalize hB : m_law_is_finer_b3 = BB
    bv_omega
    refine op_mul' (cMul_r (by omega) (by omega)) ?_
    bv_omega
    rw [show (m : Int) * (i : Int) = ((m * i : Nat) : Int) by rw [Int.natCast_mul], rgD_nat]
    have hF : finL m l i f = (List.range (m * i)).all fun x => ((x + 1) % m == l) || !((x + 1) % i == f) := rfl
    generalize List.range (m * i) = N at *
    subst hB
    refine wL_inv (w := fun k : Nat => D.int ((k : Nat) : Int)) (fun rest δ μ => ∃ x2 x3, (rest.all fun x => ((x + 1) % m == l) || !((x + 1) % i == f)) = finL m l i f ∧ δ = [.dat (.tup [.int m, .int l]), .dat (.tup [.int i, .int f]), x2, x3] ∧ μ = []) ⟨_, _, hF.symm, rfl, rfl⟩ ?_ ?_
    · rintro x rest δ μ ⟨x2, x3, h1, rfl, rfl⟩
      have b1 := fin_iff (x := x) h0 hm hl
      have b2 := fin_iff (x := x) g0 hi hf
      rw [List.all_cons] at h1
      refine ⟨rfl, _, rfl, ?_⟩
      dsimp only [List.set_cons_zero, List.set_cons_succ]
      generalize hT : m_law_is_finer_2 = TT
      bv_omega
      rw [b1]
      subst hT
      generalize hT : m_law_is_finer_1 = TT
      cases e1 : (x + 1) % m == l with
      | true =>
        rw [e1, Bool.true_or, Bool.true_and] at h1
        bv_omega
        exact ⟨_, _, h1, rfl, rfl⟩
      | false =>
        rw [e1, Bool.false_or] at h1
        bv_omega
        rw [b2]
        cases e2 : (x + 1) % i == f with
        | false =>
          rw [e2, Bool.not_false, Bool.true_and] at h1
          refine cnd_pos rfl ?_
          bv_omega
          exact ⟨_, _, h1, rfl, rfl⟩
        | true =>
          rw [e2, Bool.not_true, Bool.false_and] at h1
          rw [← h1]
          refine cnd_neg rfl ?_
          subst hT
          bv_omega
          first | exact ⟨(.dat (.bl false), []), rfl, rfl, rfl⟩ | exact ⟨rfl, rfl⟩
    · rintro δ μ ⟨x2, x3, h1, rfl, rfl⟩
      rw [List.all_nil] at h1
      rw [← h1]
      refine ⟨rfl, ?_⟩
      bv_omega
      first | exact ⟨(.dat (.bl true), []), rfl, rfl, rfl⟩ | exact ⟨rfl, rfl⟩
  obtain ⟨r, μ, h1, rfl, rfl⟩ := key
  exact h1
theorem eq_lf {a b : List Nat} {μ : Mu} {K : DL.R → Prop} (q : K (.dat (.bl (decide (a = b))))) : oK (fEq false (.dat (.lst (intN a))) (.fr (intN b)) μ) K := by
  refine ⟨_, ?_, q⟩
  have e1 : ∀ l : List Nat, intN l = (l.map fun k => ((k : Nat) : Int)).map D.int := fun l => by
    unfold intN
    rw [List.map_map]
    rfl
  have e2 : fEq false (.dat (.lst (intN a))) (.fr (intN b)) μ = fEq false (.dat (.lst (intN a))) (.dat (.lst (intN b))) μ := rfl
  rw [e2, e1 a, e1 b, eq_ints, Bool.false_xor]
  have e3 : decide ((a.map fun k => ((k : Nat) : Int)) = b.map fun k => ((k : Nat) : Int)) = decide (a = b) := by
    refine decide_eq_decide.mpr ⟨fun h => ?_, fun h => by rw [h]⟩
    exact List.map_inj_right (fun x y e => by omega) |>.mp h
  rw [e3]
def chN (B : List Nat) (w : Nat) : Bool := decide (B.map (· % w) = List.replicate B.length (B.headD 0 % w))
def nrN (B : List Nat) (t : Nat) : Option (Nat × Nat) := (List.range t).findSome? fun k => if chN B (t - k) then some (t - k, B.headD 0 % (t - k)) else none
def opT : Option (Nat × Nat) → D
  | some (w, s) => .tup [.int (w : Int), .int (s : Int)]
  | none => .non
theorem narrow_ok (h0 : 0 < m) (hm : m ≤ 12) (hl : l < m) (g0 : 0 < i) (hi : i ≤ 12) (hf : f < i) (hB : (begN m l (m * i) ++ begN i f (m * i)) ≠ []) (hBl : (begN m l (m * i) ++ begN i f (m * i)).length ≤ 100) : m_law_narrow [.dat (.tup [.int m, .int l]), .dat (.tup [.int i, .int f])] [] = some (.dat (opT (nrN (begN m l (m * i) ++ begN i f (m * i)) (min m i))), []) := by
  have hmi : m * i ≤ 144 := Nat.mul_le_mul hm hi
  have b1 := begins_ok (n := m * i) h0 hm hl (by omega)
  have b2 := begins_ok (n := m * i) g0 hi hf (by omega)
  have key : wF m_law_narrow [.dat (.tup [.int m, .int l]), .dat (.tup [.int i, .int f])] [] fun r μ => r = .dat (opT (nrN (begN m l (m * i) ++ begN i f (m * i)) (min m i))) ∧ μ = [] := by
    generalize begN m l (m * i) = B1 at *
    generalize begN i f (m * i) = B2 at *
    unfold m_law_narrow
    refine fn_wp rfl ?_
    dsimp only [List.cons_append, List.nil_append, List.reduceReplicate, Nat.reduceSub]
    generalize hT : mSeq m_law_narrow_6 m_law_narrow_7 = TT
    have em : (m : Int) * (i : Int) = ((m * i : Nat) : Int) := by rw [Int.natCast_mul]
    have cm : cMul (m : Int) (i : Int) = true := cMul_r (by omega) (by omega)
    bv_omega
    refine op_mul' cm ?_
    rw [em]
    bv_omega
    refine op_mul' cm ?_
    rw [em]
    bv_omega
    have hBl2 : (intN B1).length + (intN B2).length ≤ 100 := by
      rw [List.length_append] at hBl
      unfold intN
      rw [List.length_map, List.length_map]
      exact hBl
    refine add_fr (by omega) ?_
    have eB : intN B1 ++ intN B2 = intN (B1 ++ B2) := by unfold intN; rw [List.map_append]
    rw [eB]
    clear hBl2 eB b1 b2 em cm
    generalize B1 ++ B2 = B at *
    bv_omega
    subst hT
    generalize hB5 : m_law_narrow_b5 = BB
    have fr : wS (mSeq (mFor (mItR3 (mCons (mCb fMin (mCons (mCb fInt (mCons (mOp fIx (mVar 0) (mC (.int 0))) mNil)) (mCons (mCb fInt (mCons (mOp fIx (mVar 1) (mC (.int 0))) mNil)) mNil))) (mCons (mC (.int 0)) (mCons (mUn (fun i => -i) (mC (.int 1))) mNil)))) (tgName 3) BB) m_law_narrow_7) [.dat (.tup [.int m, .int l]), .dat (.tup [.int i, .int f]), .dat (.lst (intN B)), .no, .no, .no] [] fun fl => oK (retF 0 fl) fun z => z.1 = .dat (opT (nrN B (min m i))) ∧ z.2 = [] := by
      bv_omega
      refine wI_r3 ?_
      have fr : wA (mCons (mCb fMin (mCons (mCb fInt (mCons (mOp fIx (mVar 0) (mC (.int 0))) mNil)) (mCons (mCb fInt (mCons (mOp fIx (mVar 1) (mC (.int 0))) mNil)) mNil))) (mCons (mC (.int 0)) (mCons (mUn (fun i => -i) (mC (.int 1))) mNil))) [.dat (.tup [.int m, .int l]), .dat (.tup [.int i, .int f]), .dat (.lst (intN B)), .no, .no, .no] [] fun rs μ1 => rs = [.dat (.int ((min m i : Nat) : Int)), .dat (.int 0), .dat (.int (-1))] ∧ μ1 = [] := by
        have e : ((min m i : Nat) : Int) = if (i : Int) < (m : Int) then (i : Int) else (m : Int) := by split <;> omega
        rw [e]
        exact ⟨_, _, rfl, rfl, rfl⟩
      obtain ⟨_, _, q1, rfl, rfl⟩ := fr
      refine ⟨_, _, q1, ((min m i : Nat) : Int), 0, rfl, ⟨by omega, by omega, by omega, by omega⟩, ?_⟩
      have er : rgDn ((min m i : Nat) : Int) 0 = (List.range (min m i)).map fun k => D.int (((min m i : Nat) : Int) - ((k : Nat) : Int)) := by
        unfold rgDn
        rw [show (((min m i : Nat) : Int) - 0).toNat = min m i by omega]
      rw [er]
      clear q1 er
      have ht : min m i ≤ 12 := by omega
      generalize min m i = t at *
      have hN : nrN B t = (List.range t).findSome? fun k => if chN B (t - k) then some (t - k, B.headD 0 % (t - k)) else none := rfl
      generalize nrN B t = NN at *
      have hFF : ∃ FF : Nat → Option (Nat × Nat), FF = fun k => if chN B (t - k) then some (t - k, B.headD 0 % (t - k)) else none := ⟨_, rfl⟩
      obtain ⟨FF, hFF⟩ := hFF
      rw [← hFF] at hN
      refine wL_inv (w := fun k : Nat => D.int ((t : Int) - ((k : Nat) : Int))) (fun rest δ μ => ∃ x3 x4 x5, rest.findSome? FF = NN ∧ (∀ k ∈ rest, k < t) ∧ δ = [.dat (.tup [.int m, .int l]), .dat (.tup [.int i, .int f]), .dat (.lst (intN B)), x3, x4, x5] ∧ μ = []) ⟨_, _, _, hN.symm, fun k hk => List.mem_range.mp hk, rfl, rfl⟩ ?_ ?_
      · rintro k rest δ μ ⟨x3, x4, x5, h1, h2, rfl, rfl⟩
        have hk := h2 k List.mem_cons_self
        rw [List.findSome?_cons] at h1
        have hFk : FF k = if chN B (t - k) then some (t - k, B.headD 0 % (t - k)) else none := by rw [hFF]
        clear hFF
        obtain ⟨w, hw⟩ : ∃ w : Nat, t - k = w := ⟨_, rfl⟩
        have hw0 : 0 < w := by omega
        rw [show (t : Int) - (k : Int) = (w : Int) by omega]
        rw [hw] at hFk
        refine ⟨rfl, _, rfl, ?_⟩
        dsimp only [List.set_cons_zero, List.set_cons_succ]
        subst hB5
        generalize hT : m_law_narrow_4 = TT
        clear hN
        bv_omega
        unfold intN
        refine wLc_map (β := Nat) (xs := B) (w := fun k => D.int ((k : Nat) : Int)) (g := fun x => D.int ((x % w : Nat) : Int)) rfl (by omega) (fun x hx => ⟨_, rfl, ?_⟩) ?_
        · clear hFk h1 h2 hx hB hBl
          dsimp only [wipeR, List.set_cons_zero, List.set_cons_succ]
          bv_omega
          first | (refine op_mod' (by omega) ?_; bv_omega; exact ⟨rfl, by rw [Int.natCast_emod]; rfl⟩) | exact ⟨rfl, by rw [Int.natCast_emod]; rfl⟩
        bv_omega
        have eR : B.map (fun x => D.int ((x % w : Nat) : Int)) = intN (B.map (· % w)) := by unfold intN; rw [List.map_map]; rfl
        rw [eR]
        subst hT
        generalize hT : m_law_narrow_3 = TT
        obtain ⟨b0, B', rfl⟩ := List.exists_cons_of_ne_nil hB
        have eh : intN ((b0 :: B').map (· % w)) = .int ((b0 % w : Nat) : Int) :: intN (B'.map (· % w)) := rfl
        have ix0 : fIx (.dat (.lst (intN ((b0 :: B').map (· % w))))) (.dat (.int 0)) [] = some (.dat (.int ((b0 % w : Nat) : Int))) := by
          rw [eh]
          simp [fIx, atI, ixN]
        have lR : (intN ((b0 :: B').map (· % w))).length = (b0 :: B').length := by unfold intN; rw [List.length_map, List.length_map]
        have eC : chN (b0 :: B') w = decide ((b0 :: B').map (· % w) = List.replicate (b0 :: B').length (b0 % w)) := rfl
        have h0D : (b0 :: B').headD 0 = b0 := rfl
        rw [h0D] at hFk
        generalize hRR : (b0 :: B').map (· % w) = RR at *
        generalize hLL : (b0 :: B').length = LL at *
        bv_omega
        refine ⟨_, ix0, ?_⟩
        have lR2 : (LL : Int) = ((intN RR).length : Int) := by rw [lR]
        clear eh eR hRR hLL
        bv_omega
        have fm : fMulL (.fr [.int ((b0 % w : Nat) : Int)]) (.dat (.int (LL : Int))) [] = some (.fr (intN (List.replicate LL (b0 % w)))) := by
          have e0 : (List.replicate LL [D.int ((b0 % w : Nat) : Int)]).flatten = intN (List.replicate LL (b0 % w)) := by
            unfold intN
            rw [List.map_replicate]
            simp
          unfold fMulL
          dsimp only [lstOf]
          rw [if_pos ⟨by omega, by omega, by simp⟩, ← e0]
          rfl
        rw [← lR2]
        refine ⟨_, fm, ?_⟩
        clear fm lR2 lR
        refine eq_lf ?_
        refine ⟨_, rfl, ?_⟩
        rw [← eC]
        clear eC
        cases hc : chN (b0 :: B') w with
        | false =>
          rw [hc, if_neg (by simp)] at hFk
          rw [hFk] at h1
          refine cnd_neg rfl ?_
          clear hFk
          bv_omega
          exact ⟨_, _, _, h1, fun j hj => h2 j (List.mem_cons_of_mem _ hj), rfl, rfl⟩
        | true =>
          rw [hc, if_pos rfl] at hFk
          rw [hFk] at h1
          dsimp only at h1
          subst h1
          refine cnd_pos rfl ?_
          subst hT
          clear hFk h2
          bv_omega
          refine ⟨_, ix0, ?_⟩
          clear ix0
          bv_omega
          first | exact ⟨(.dat (.tup [.int (w : Int), .int ((b0 % w : Nat) : Int)]), []), rfl, rfl, rfl⟩ | exact ⟨rfl, rfl⟩
      · rintro δ μ ⟨x3, x4, x5, h1, h2, rfl, rfl⟩
        rw [List.findSome?_nil] at h1
        subst h1
        clear hN hFF h2
        refine ⟨rfl, ?_⟩
        bv_omega
        first | exact ⟨(.dat .non, []), rfl, rfl, rfl⟩ | exact ⟨rfl, rfl⟩
    rw [← hB5] at fr
    exact fr
  obtain ⟨r, μ, h1, rfl, rfl⟩ := key
  exact h1
theorem ne_lf {a : List Nat} {μ : Mu} {K : DL.R → Prop} (q : K (.dat (.bl (decide (a ≠ []))))) : oK (fEq true (.dat (.lst (intN a))) (.fr []) μ) K := by
  refine ⟨_, ?_, q⟩
  have e1 : intN a = (a.map fun k => ((k : Nat) : Int)).map D.int := by
    unfold intN
    rw [List.map_map]
    rfl
  have e2 : fEq true (.dat (.lst (intN a))) (.fr []) μ = fEq true (.dat (.lst (intN a))) (.dat (.lst (([] : List Int).map D.int))) μ := rfl
  rw [e2, e1, eq_ints, Bool.true_xor, ← decide_not]
  have e3 : decide (¬ (a.map fun k => ((k : Nat) : Int)) = []) = decide (a ≠ []) := by
    refine decide_eq_decide.mpr (not_congr ?_)
    exact List.map_eq_nil_iff
  rw [e3]
theorem in_fn {x : Nat} {l : List Nat} {μ : Mu} {K : DL.R → Prop} (q : K (.dat (.bl (decide (x ∈ l))))) : oK (fIn false (.dat (.int (x : Int))) (.fr (intN l)) μ) K := by
  refine ⟨_, ?_, q⟩
  have e : intN l = (l.map fun k => ((k : Nat) : Int)).map D.int := by
    unfold intN
    rw [List.map_map]
    rfl
  have e2 : fIn false (.dat (.int (x : Int))) (.fr (intN l)) μ = fIn false (.dat (.int (x : Int))) (.dat (.lst (intN l))) μ := rfl
  rw [e2, e]
  have := in_ints (i := (x : Int)) (ns := l.map fun k => ((k : Nat) : Int)) (neg := false) (k := false) (μ := μ)
  have e3 : decide ((x : Int) ∈ l.map fun k => ((k : Nat) : Int)) = decide (x ∈ l) := by
    rw [Bool.eq_iff_iff, decide_eq_true_iff, decide_eq_true_iff, List.mem_map]
    constructor
    · rintro ⟨a, ha, e⟩
      rwa [← show a = x by omega]
    · intro h
      exact ⟨x, h, rfl⟩
  rw [← e3, ← Bool.false_xor (decide ((x : Int) ∈ l.map fun k => ((k : Nat) : Int)))]
  exact this
def botN (m l i f : Nat) : List Nat := (begN m l (2 * m * i + 1)).filter fun x => decide (x ∈ begN i f (2 * m * i + 1))
def wdD : List Nat → D
  | b0 :: b1 :: _ => .tup [.int ((b1 : Int) - (b0 : Int)), .int (b0 : Int)]
  | _ => .non
theorem ixL {l : List D} {k : Nat} {μ : Mu} {K : DL.R → Prop} (h : k < l.length) (q : K (.dat l[k])) : oK (fIx (.dat (.lst l)) (.dat (.int ((k : Nat) : Int))) μ) K := by
  refine ⟨_, ?_, q⟩
  simp [fIx, sqOf, lstOf, atI, ixN, h]
theorem w0_ok (hm : m ≤ 12) (hi : i ≤ 12) : wS m_law_wide_0 [.dat (.tup [.int m, .int l]), .dat (.tup [.int i, .int f]), .no, .no, .no] [] fun fl => fl = .nx [.dat (.tup [.int m, .int l]), .dat (.tup [.int i, .int f]), .dat (.int ((2 : Int) * (m : Int) * (i : Int) + 1)), .no, .no] [] := by
  bv_omega
  refine op_mul' (cMul_r (by omega) (by omega)) ?_
  bv_omega
  refine op_mul' (cMul_r (by omega) (by omega)) ?_
  bv_omega
theorem wide_ok (h0 : 0 < m) (hm : m ≤ 12) (hl : l < m) (g0 : 0 < i) (hi : i ≤ 12) (hf : f < i) (hB : (botN m l i f).length ≠ 1) : m_law_wide [.dat (.tup [.int m, .int l]), .dat (.tup [.int i, .int f])] [] = some (.dat (wdD (botN m l i f)), []) := by
  have hmi : m * i ≤ 144 := Nat.mul_le_mul hm hi
  have h2 : 2 * m * i ≤ 288 := by rw [Nat.mul_assoc]; omega
  have b1 := begins_ok (n := 2 * m * i + 1) h0 hm hl (by omega)
  have b2 := begins_ok (n := 2 * m * i + 1) g0 hi hf (by omega)
  have bl := List.length_filter_le (fun x => x % m == l) (List.range (2 * m * i + 1))
  rw [List.length_range] at bl
  replace bl : (begN m l (2 * m * i + 1)).length ≤ 289 := by unfold begN; omega
  have key : wF m_law_wide [.dat (.tup [.int m, .int l]), .dat (.tup [.int i, .int f])] [] fun r μ => r = .dat (wdD (botN m l i f)) ∧ μ = [] := by
    have hbo : botN m l i f = (begN m l (2 * m * i + 1)).filter fun x => decide (x ∈ begN i f (2 * m * i + 1)) := rfl
    have en : (2 : Int) * (m : Int) * (i : Int) + 1 = ((2 * m * i + 1 : Nat) : Int) := by
      simp
    generalize begN m l (2 * m * i + 1) = B1 at *
    generalize begN i f (2 * m * i + 1) = B2 at *
    generalize 2 * m * i + 1 = L at *
    generalize botN m l i f = BB at *
    unfold m_law_wide
    refine fn_wp rfl ?_
    dsimp only [List.cons_append, List.nil_append, List.reduceReplicate, Nat.reduceSub]
    generalize hT : mSeq m_law_wide_3 m_law_wide_4 = TT
    have st := w0_ok (m := m) (l := l) (i := i) (f := f) hm hi
    rw [en] at st
    obtain ⟨_, q1, rfl⟩ := st
    refine wS_seq ⟨_, q1, ?_⟩
    clear q1 en
    subst hT
    generalize hT : m_law_wide_4 = TT
    show wS (mSeq m_law_wide_3 TT) _ _ _
    bv_omega
    unfold intN
    refine wLc_filter (β := Nat) (xs := B1) (w := fun k => D.int ((k : Nat) : Int)) (p := fun x => decide (x ∈ B2)) (g := fun k => D.int ((k : Nat) : Int)) rfl (by omega) (fun x hx => ⟨_, rfl, ?_⟩) ?_
    · dsimp only [wipeR, List.set_cons_zero, List.set_cons_succ]
      clear b1 hbo
      bv_omega
      refine in_fn ?_
      refine ⟨_, rfl, rfl, rfl, fun _ => ?_⟩
      bv_omega
      exact ⟨rfl, rfl⟩
    rw [← hbo]
    clear b1 b2 hbo
    bv_omega
    subst hT
    have ei : (BB.map fun k => D.int ((k : Nat) : Int)) = intN BB := rfl
    rw [ei]
    bv_omega
    refine ne_lf ?_
    refine ⟨_, rfl, ?_⟩
    match BB, hB with
    | [], _ =>
      refine cnd_neg (by simp) ?_
      bv_omega
      first | exact ⟨(.dat .non, []), rfl, rfl, rfl⟩ | exact ⟨rfl, rfl⟩
    | [x], h => exact absurd rfl h
    | b0 :: b1 :: R, _ =>
      refine cnd_pos (by simp) ?_
      have e2 : intN (b0 :: b1 :: R) = .int (b0 : Int) :: .int (b1 : Int) :: intN R := rfl
      rw [e2]
      generalize intN R = RR
      have lz : 2 ≤ (D.int (b0 : Int) :: D.int (b1 : Int) :: RR).length := by simp
      have g0 : ∀ (μ : Mu) (K : DL.R → Prop), K (.dat (.int (b0 : Int))) → oK (fIx (.dat (.lst (D.int (b0 : Int) :: D.int (b1 : Int) :: RR))) (.dat (.int 0)) μ) K := fun μ K q => ixL (k := 0) (by omega) q
      have g1 : ∀ (μ : Mu) (K : DL.R → Prop), K (.dat (.int (b1 : Int))) → oK (fIx (.dat (.lst (D.int (b0 : Int) :: D.int (b1 : Int) :: RR))) (.dat (.int 1)) μ) K := fun μ K q => ixL (k := 1) (by omega) q
      generalize (D.int (b0 : Int) :: D.int (b1 : Int) :: RR) = ZZ at *
      bv_omega
      refine g1 _ _ ?_
      bv_omega
      refine g0 _ _ ?_
      bv_omega
      refine g0 _ _ ?_
      bv_omega
      first | exact ⟨(.dat (.tup [.int ((b1 : Int) - (b0 : Int)), .int (b0 : Int)]), []), rfl, rfl, rfl⟩ | exact ⟨rfl, rfl⟩
  obtain ⟨r, μ, h1, rfl, rfl⟩ := key
  exact h1
end
end NS
set_option Elab.async false
set_option linter.all false
set_option maxRecDepth 100000
set_option maxHeartbeats 1000000
namespace NS
open PySem PySem.Spec PyProof.Rows L2 DL
theorem filt_eq {l : Nat} : ∀ {m : Nat}, (List.range m).filter (fun x => x == l) = if l < m then [l] else []
  | 0 => rfl
  | m + 1 => by
    rw [List.range_succ, List.filter_append, filt_eq, List.filter_cons, List.filter_nil]
    by_cases h : m = l
    · subst h
      simp
    · have h2 : (m == l) = false := by simpa using h
      rw [h2]
      by_cases h3 : l < m
      · rw [if_pos h3, if_pos (show l < m + 1 by omega)]
        rfl
      · rw [if_neg h3, if_neg (show ¬ l < m + 1 by omega)]
        rfl
theorem filt_one {m l : Nat} (hl : l < m) (c : Nat) : ((List.range m).map fun x => m * c + x).filter (fun x => x % m == l) = [l + m * c] := by
  have h : ((List.range m).map fun x => m * c + x).filter (fun x => x % m == l) = ((List.range m).filter fun x => x == l).map fun x => m * c + x := by
    rw [List.filter_map]
    congr 1
    refine List.filter_congr fun x hx => ?_
    have hx := List.mem_range.mp hx
    show ((m * c + x) % m == l) = (x == l)
    rw [Nat.mul_add_mod, Nat.mod_eq_of_lt hx]
  rw [h]
  have h2 : (List.range m).filter (fun x => x == l) = [l] := by
    rw [filt_eq, if_pos hl]
  rw [h2, List.map_singleton, Nat.add_comm]
theorem beg_mul {m l : Nat} (hl : l < m) : ∀ c, begN m l (m * c) = (List.range c).map fun k => l + m * k
  | 0 => rfl
  | c + 1 => by
    have ih := beg_mul hl c
    unfold begN at ih ⊢
    rw [Nat.mul_succ, List.range_add, List.filter_append, ih, filt_one hl, List.range_succ, List.map_append]
    rfl
def begM (m l c : Nat) : List Nat := (List.range c).map fun k => l + m * k
def bot2 (m l i f : Nat) : List Nat := (begM m l (2 * i) ++ if l = 0 then [m * (2 * i)] else []).filter fun x => x % i == f
theorem bot_eq {m l i f : Nat} (hl : l < m) : botN m l i f = bot2 m l i f := by
  have e : begN m l (2 * m * i + 1) = begM m l (2 * i) ++ if l = 0 then [m * (2 * i)] else [] := by
    have h1 : 2 * m * i + 1 = m * (2 * i) + 1 := by rw [Nat.mul_comm 2 m, Nat.mul_assoc]
    have h2 : begN m l (m * (2 * i) + 1) = begN m l (m * (2 * i)) ++ if l = 0 then [m * (2 * i)] else [] := by
      unfold begN
      rw [List.range_succ, List.filter_append]
      congr 1
      rw [List.filter_cons, Nat.mul_mod_right, List.filter_nil]
      by_cases z : l = 0
      · rw [if_pos z, z]; rfl
      · rw [if_neg z]
        have : (0 == l) = false := by simpa using fun h => z h.symm
        rw [this]
        rfl
    rw [h1, h2, beg_mul hl]
    rfl
  unfold botN bot2
  rw [← e]
  refine List.filter_congr fun x hx => ?_
  unfold begN at hx ⊢
  rw [Bool.eq_iff_iff, decide_eq_true_iff, List.mem_filter]
  exact ⟨fun h => h.2, fun h => ⟨(List.mem_filter.mp hx).1, h⟩⟩
def ch2 (B : List Nat) (w : Nat) : Bool := match B with
  | [] => true
  | b :: R => R.all fun x => x % w == b % w
theorem ch_eq (B : List Nat) (w : Nat) : chN B w = ch2 B w := by
  cases B with
  | nil => rfl
  | cons b R =>
    show decide ((b :: R).map (· % w) = List.replicate (b :: R).length (b % w)) = R.all fun x => x % w == b % w
    rw [Bool.eq_iff_iff, decide_eq_true_iff, List.all_eq_true]
    constructor
    · intro h x hx
      have h1 : x % w ∈ (b :: R).map (· % w) := List.mem_map.mpr ⟨x, List.mem_cons_of_mem _ hx, rfl⟩
      rw [h] at h1
      exact beq_iff_eq.mpr (List.eq_of_mem_replicate h1)
    · intro h
      rw [List.eq_replicate_iff]
      refine ⟨List.length_map _, fun y hy => ?_⟩
      obtain ⟨x, hx, rfl⟩ := List.mem_map.mp hy
      rcases List.mem_cons.mp hx with rfl | hx
      · rfl
      · exact beq_iff_eq.mp (h x hx)
def nr2 (B : List Nat) (t : Nat) : Option (Nat × Nat) := (List.range t).findSome? fun k => if ch2 B (t - k) then some (t - k, B.headD 0 % (t - k)) else none
theorem nr_eq (B : List Nat) (t : Nat) : nrN B t = nr2 B t := by
  unfold nrN nr2
  simp only [ch_eq]
def dvN (m i : Nat) : List Nat := (List.range' 1 m).filter fun k => m % k == 0 && i % k == 0
def tb1 (m l i f : Nat) : Bool := finL m l i f == (i % m == 0 && f % m == l)
def tb2 (m l i f : Nat) : Bool := nr2 (begM m l i ++ begM i f m) (min m i) == some (wdN m l i f, l % wdN m l i f) && wdN i f m l == wdN m l i f && f % wdN m l i f == l % wdN m l i f && !(begM m l i ++ begM i f m).isEmpty && Nat.ble (begM m l i ++ begM i f m).length 100
def tb3 (m l i f : Nat) : Bool := (match orN m l i f, bot2 m l i f with
  | some (w, s), b0 :: b1 :: _ => b0 + w == b1 && b0 == s
  | none, [] => true
  | _, _ => false) && orN i f m l == orN m l i f && ((orN m l i f).isSome == decide (((l : Int) - f) % (Nat.gcd m i : Nat) = 0))
def tb4 (m i : Nat) : Bool := (dvN m i).getLast? == some (Nat.gcd m i)
def tabB (m l i f : Nat) : Bool := tb1 m l i f && tb2 m l i f && tb3 m l i f
def rowB (m : Nat) : Bool := (List.range m).all fun l => (List.range' 1 12).all fun i => (List.range i).all fun f => tabB m l i f

theorem tab_1 : rowB 1 = true := by decide +kernel
theorem tab_2 : rowB 2 = true := by decide +kernel
theorem tab_3 : rowB 3 = true := by decide +kernel
theorem tab_4 : rowB 4 = true := by decide +kernel
theorem tab_5 : rowB 5 = true := by decide +kernel
theorem tab_6 : rowB 6 = true := by decide +kernel
theorem tab_7 : rowB 7 = true := by decide +kernel
theorem tab_8 : rowB 8 = true := by decide +kernel
theorem tab_9 : rowB 9 = true := by decide +kernel
theorem tab_10 : rowB 10 = true := by decide +kernel
theorem tab_11 : rowB 11 = true := by decide +kernel
theorem tab_12 : rowB 12 = true := by decide +kernel
theorem tab_d : ((List.range' 1 12).all fun m => (List.range' 1 12).all fun i => tb4 m i) = true := by decide +kernel
theorem row_ok {m : Nat} (h0 : 0 < m) (hm : m ≤ 12) : rowB m = true :=
  match m, h0, hm with
  | 1, _, _ => tab_1
  | 2, _, _ => tab_2
  | 3, _, _ => tab_3
  | 4, _, _ => tab_4
  | 5, _, _ => tab_5
  | 6, _, _ => tab_6
  | 7, _, _ => tab_7
  | 8, _, _ => tab_8
  | 9, _, _ => tab_9
  | 10, _, _ => tab_10
  | 11, _, _ => tab_11
  | 12, _, _ => tab_12
theorem tab_ok {m l i f : Nat} (h0 : 0 < m) (hm : m ≤ 12) (hl : l < m) (g0 : 0 < i) (hi : i ≤ 12) (hf : f < i) : tb1 m l i f = true ∧ tb2 m l i f = true ∧ tb3 m l i f = true := by
  have h := List.all_eq_true.mp (List.all_eq_true.mp (List.all_eq_true.mp (row_ok h0 hm) l (List.mem_range.mpr hl)) i (List.mem_range'_1.mpr ⟨by omega, by omega⟩)) f (List.mem_range.mpr hf)
  unfold tabB at h
  rw [Bool.and_eq_true, Bool.and_eq_true] at h
  exact ⟨h.1.1, h.1.2, h.2⟩
theorem tabd_ok {m i : Nat} (h0 : 0 < m) (hm : m ≤ 12) (g0 : 0 < i) (hi : i ≤ 12) : (dvN m i).getLast? = some (Nat.gcd m i) := by
  have h := List.all_eq_true.mp (List.all_eq_true.mp tab_d m (List.mem_range'_1.mpr ⟨by omega, by omega⟩)) i (List.mem_range'_1.mpr ⟨by omega, by omega⟩)
  unfold tb4 at h
  exact beq_iff_eq.mp h
end NS
set_option Elab.async false
set_option linter.all false
set_option maxRecDepth 100000
set_option maxHeartbeats 1000000
namespace NS
open PySem PySem.Spec PyProof.Rows L2 DL
section
variable {m l i f : Nat} {x4 x5 x6 x7 x8 x9 : DL.R}
abbrev T (m l : Nat) : D := .tup [.int (m : Int), .int (l : Int)]
theorem same_eq (h0 : 0 < m) (hl : l < m) (g0 : 0 < i) (hf : f < i) : sameB m l i f = (leB m l i f && leB i f m l) := by
  unfold sameB leB
  rw [Bool.eq_iff_iff]
  simp only [Bool.and_eq_true, decide_eq_true_iff]
  constructor
  · rintro ⟨h1, h2⟩
    have h1 : m = i := by omega
    have h2 : l = f := by omega
    subst h1
    subst h2
    simp
  · rintro ⟨⟨h1, h2⟩, h3, h4⟩
    have d1 : m ∣ i := Int.natCast_dvd_natCast.mp (Int.dvd_of_emod_eq_zero h1)
    have d2 : i ∣ m := Int.natCast_dvd_natCast.mp (Int.dvd_of_emod_eq_zero h3)
    have e : m = i := Nat.dvd_antisymm d1 d2
    subst e
    have h5 : (f % m == l) = true := by rw [← mod_iff hl]; exact decide_eq_true h2
    rw [Nat.mod_eq_of_lt hf, beq_iff_eq] at h5
    exact ⟨rfl, by omega⟩
theorem le_nat (hl : l < m) : leB m l i f = (i % m == 0 && f % m == l) := by
  unfold leB
  rw [mod_iff hl]
  congr 1
  rw [Bool.eq_iff_iff, decide_eq_true_iff, beq_iff_eq]
  omega
theorem p0 (h0 : 0 < m) (hl : l < m) (g0 : 0 < i) (hf : f < i) : m_law_pair_right_0 [.dat (T m l), .dat (T i f), .no, .no, x4, x5, x6, x7, x8, x9] [] = some (.nx [.dat (T m l), .dat (T i f), .dat (gr m l), .dat (gr i f), x4, x5, x6, x7, x8, x9] []) := by
  have a := init_ok (m := m) (l := l) (by omega)
  have b := init_ok (m := i) (l := f) (by omega)
  rw [Int.emod_eq_of_lt (by omega) (by omega)] at a b
  simp [a, b, atI, ixN]
theorem p1 {t b : Bool} {Q : Flo → Prop} (ht : m_law_is_finer [.dat (T m l), .dat (T i f)] [] = some (.dat (.bl t), [])) (hb : m_law_is_finer [.dat (T i f), .dat (T m l)] [] = some (.dat (.bl b), []))
    (q : Q (.nx [.dat (T m l), .dat (T i f), .dat (gr m l), .dat (gr i f), .dat (.bl t), .dat (.bl b), x6, x7, x8, x9] [])) : wS m_law_pair_right_1 [.dat (T m l), .dat (T i f), .dat (gr m l), .dat (gr i f), x4, x5, x6, x7, x8, x9] [] Q := by
  generalize T m l = T1 at *
  generalize T i f = T2 at *
  bv_omega
  exact q
abbrev oLe : G2 := gOr (gB fLeI) (gOr (gCm 0 1 (callX m_Grid_le)) (gNI 0 (callX m_Grid_ge)))
abbrev oLt : G2 := gOr (gB fLt) (gOr (gCm 0 1 (callX m_Grid_lt)) (gNI 0 (callX m_Grid_gt)))
abbrev oGe : G2 := gOr (gB fGeI) (gOr (gCm 0 1 (callX m_Grid_ge)) (gNI 0 (callX m_Grid_le)))
abbrev oGt : G2 := gOr (gB fGtI) (gOr (gCm 0 1 (callX m_Grid_gt)) (gNI 0 (callX m_Grid_lt)))
abbrev oEq : G2 := gOr (gB (fEq false)) (gOr (gCm 0 1 (callX m_Grid_eq)) (gNI 0 (callX m_Grid_eq)))
abbrev oAnd : G2 := gOr (gII 0 (callX m_Grid_and)) (gIN 0 (callX m_Grid_and))
section
variable {a b c d : Int}
theorem oLe_ok (h0 : 0 < a) : oLe (.dat (gr a b)) (.dat (gr c d)) [] = some (.dat (.bl (leB a b c d)), []) := by
  have h := le_ok (m := a) (l := b) (i := c) (f := d) h0
  generalize leB a b c d = z at *
  simp [callX, cellsIn, h]
theorem oLt_ok (h0 : 0 < a) : oLt (.dat (gr a b)) (.dat (gr c d)) [] = some (.dat (.bl (leB a b c d && !sameB a b c d)), []) := by
  have h := lt_ok (m := a) (l := b) (i := c) (f := d) h0
  generalize (leB a b c d && !sameB a b c d) = z at *
  simp [callX, cellsIn, h]
theorem oGe_ok (h0 : 0 < c) : oGe (.dat (gr a b)) (.dat (gr c d)) [] = some (.dat (.bl (leB c d a b)), []) := by
  have h := ge_ok (m := a) (l := b) (i := c) (f := d) h0
  generalize leB c d a b = z at *
  simp [callX, cellsIn, h]
theorem oGt_ok (h0 : 0 < c) : oGt (.dat (gr a b)) (.dat (gr c d)) [] = some (.dat (.bl (leB c d a b && !sameB a b c d)), []) := by
  have h := gt_ok (m := a) (l := b) (i := c) (f := d) h0
  generalize (leB c d a b && !sameB a b c d) = z at *
  simp [callX, cellsIn, h]
theorem oEq_ok : oEq (.dat (gr a b)) (.dat (gr c d)) [] = some (.dat (.bl (sameB a b c d)), []) := by
  have h := geq_ok (m := a) (l := b) (i := c) (f := d)
  have r0 : fEq false (.dat (gr a b)) (.dat (gr c d)) [] = none := rfl
  generalize sameB a b c d = z at *
  simp only [gOr, gB, r0]
  simp [callX, cellsIn, h]
theorem oAnd_ok {z : D} (h : m_Grid_and [.dat (gr a b), .dat (gr c d)] [] = some (.dat z, [])) : oAnd (.dat (gr a b)) (.dat (gr c d)) [] = some (.dat z, []) := by
  simp [callX, cellsIn, h]
end
theorem p2 {Q : Flo → Prop} (h0 : 0 < m) (g0 : 0 < i) (q : Q (.nx [.dat (T m l), .dat (T i f), .dat (gr m l), .dat (gr i f), x4, x5, .dat (.lst [.bl (leB m l i f), .bl (leB m l i f && !sameB m l i f), .bl (leB i f m l), .bl (leB i f m l && !sameB m l i f), .bl (sameB m l i f)]), x7, x8, x9] [])) : wS m_law_pair_right_2 [.dat (T m l), .dat (T i f), .dat (gr m l), .dat (gr i f), x4, x5, x6, x7, x8, x9] [] Q := by
  have a := oLe_ok (a := m) (b := l) (c := i) (d := f) (by omega)
  have b := oLt_ok (a := m) (b := l) (c := i) (d := f) (by omega)
  have c := oGe_ok (a := m) (b := l) (c := i) (d := f) (by omega)
  have d := oGt_ok (a := m) (b := l) (c := i) (d := f) (by omega)
  have e := oEq_ok (a := m) (b := l) (c := i) (d := f)
  show wS (mSet 6 (mLst (mCons (mOpG oLe (mVar 2) (mVar 3)) (mCons (mOpG oLt (mVar 2) (mVar 3)) (mCons (mOpG oGe (mVar 2) (mVar 3)) (mCons (mOpG oGt (mVar 2) (mVar 3)) (mCons (mOpG oEq (mVar 2) (mVar 3)) mNil))))))) _ _ _
  generalize T m l = T1 at *
  generalize T i f = T2 at *
  generalize gr m l = G1 at *
  generalize gr i f = G2 at *
  generalize oLe = o1 at *
  generalize oLt = o2 at *
  generalize oGe = o3 at *
  generalize oGt = o4 at *
  generalize oEq = o5 at *
  refine ⟨_, ?_, q⟩
  simp only [mSet, mLst, mCons, mOpG, mVar, mNil, List.getElem?_cons_zero, List.getElem?_cons_succ, a, b, c, d, e]
  rfl
theorem p4 {a b c d : D} {t u : Bool} : m_law_pair_right_4 [.dat a, .dat b, .dat c, .dat d, .dat (.bl t), .dat (.bl u), .dat (.lst [.bl t, .bl (t && !(t && u)), .bl u, .bl (u && !(t && u)), .bl (t && u)]), x7, x8, x9] [] = some (.nx [.dat a, .dat b, .dat c, .dat d, .dat (.bl t), .dat (.bl u), .dat (.lst [.bl t, .bl (t && !(t && u)), .bl u, .bl (u && !(t && u)), .bl (t && u)]), x7, x8, x9] []) := by
  cases t <;> cases u <;> rfl
theorem p5 {a b : D} {m l i f W s : Int} {d : D} {Q : Flo → Prop} (ha : m_Grid_and [.dat (gr m l), .dat (gr i f)] [] = some (.dat (gr W s), [])) (hn : m_law_narrow [.dat a, .dat b] [] = some (.dat d, []))
    (q : Q (.nx [.dat a, .dat b, .dat (gr m l), .dat (gr i f), x4, x5, x6, .dat (gr W s), .dat d, x9] [])) : wS m_law_pair_right_5 [.dat a, .dat b, .dat (gr m l), .dat (gr i f), x4, x5, x6, x7, x8, x9] [] Q := by
  have a := oAnd_ok ha
  show wS (mPar false false 7 8 (mOpG oAnd (mVar 2) (mVar 3)) (mCall (callX m_law_narrow) (mCons (mVar 0) (mCons (mVar 1) mNil)))) _ _ _
  clear ha
  generalize gr m l = G1 at *
  generalize gr i f = G2 at *
  generalize gr W s = G3 at *
  generalize oAnd = o1 at *
  bv_omega
  refine ⟨_, a, ?_⟩
  bv_omega
  exact q
theorem p7 {a b : D} {m l i f W s : Int} {Q : Flo → Prop} (ha : m_Grid_and [.dat (gr i f), .dat (gr m l)] [] = some (.dat (gr W s), []))
    (q : Q (.nx [.dat a, .dat b, .dat (gr m l), .dat (gr i f), x4, x5, x6, .dat (gr W s), .dat (.tup [.int W, .int s]), x9] [])) : wS m_law_pair_right_7 [.dat a, .dat b, .dat (gr m l), .dat (gr i f), x4, x5, x6, .dat (gr W s), .dat (.tup [.int W, .int s]), x9] [] Q := by
  have h1 := oAnd_ok ha
  have h2 := oEq_ok (a := W) (b := s) (c := W) (d := s)
  have e : sameB W s W s = true := by simp [sameB]
  rw [e] at h2
  have q1 := same_refl 5 (.lst [.int W, .int s, .bl true]) rfl
  rw [← e_law_same] at q1
  have a1 : ∀ (δ : Sl) (μ : Mu) (Q : DL.R → Mu → Prop), δ[7]? = some (.dat (gr W s)) → Q (.dat (.int W)) μ → DL.wE (mAttr 0 1 (mVar 7)) δ μ Q := fun δ μ Q h q => ⟨_, _, by simp only [mAttr, mVar, h]; rfl, q⟩
  have a0 : ∀ (δ : Sl) (μ : Mu) (Q : DL.R → Mu → Prop), δ[7]? = some (.dat (gr W s)) → Q (.dat (.int s)) μ → DL.wE (mAttr 0 0 (mVar 7)) δ μ Q := fun δ μ Q h q => ⟨_, _, by simp only [mAttr, mVar, h]; rfl, q⟩
  show wS (mIfS (mtNot (mB (mCall (callX (m_law_same 5)) (mCons (mLst (mCons (mAttr 0 1 (mVar 7)) (mCons (mAttr 0 0 (mVar 7)) (mCons (mOpG oEq (mOpG oAnd (mVar 3) (mVar 2)) (mVar 7)) mNil)))) (mCons (mLst (mCons (mOp fIx (mVar 8) (mC (.int 0))) (mCons (mOp fIx (mVar 8) (mC (.int 1))) (mCons (mC (.bl true)) mNil)))) mNil))))) m_law_pair_right_6 mNx) _ _ _
  clear ha e
  generalize gr m l = G1 at *
  generalize gr i f = G2 at *
  generalize oAnd = o1 at *
  generalize oEq = o2 at *
  clear a1 a0
  bv_omega
  refine ⟨_, h1, ?_⟩
  bv_omega
  refine ⟨_, h2, ?_⟩
  bv_omega
  first | exact q | trace_state
theorem p8 {a b c d e : D} {Q : Flo → Prop} (hw : m_law_wide [.dat a, .dat b] [] = some (.dat e, []))
    (q : Q (.nx [.dat a, .dat b, .dat c, .dat d, x4, x5, x6, x7, .dat e, x9] [])) : wS m_law_pair_right_8 [.dat a, .dat b, .dat c, .dat d, x4, x5, x6, x7, x8, x9] [] Q := by
  bv_omega
  exact q
theorem rg_from {a n : Nat} : rgD (a : Int) (n : Int) = (List.range' a (n - a)).map fun k => D.int ((k : Nat) : Int) := by
  unfold rgD
  rw [show ((n : Int) - (a : Int)).toNat = n - a by omega, List.range'_eq_map_range, List.map_map]
  refine List.map_congr_left fun k _ => ?_
  show D.int _ = D.int _
  congr 1
theorem p11 {c d : D} {Q : Flo → Prop} (hm : m ≤ 12)
    (q : ∀ y9, Q (.nx [.dat (T m l), .dat (T i f), .dat c, .dat d, x4, x5, x6, .dat (.lst (intN (dvN m i))), x8, y9] [])) : wS m_law_pair_right_11 [.dat (T m l), .dat (T i f), .dat c, .dat d, x4, x5, x6, x7, x8, x9] [] Q := by
  show wS (mSet 7 (mLc (mItR2 (mCons (mC (.int 1)) (mCons (mOp fAdd (mOp fIx (mVar 0) (mC (.int 0))) (mC (.int 1))) mNil))) (tgName 9) (mtAnd (mB (mOpG oEq (mOp fMod (mCb fInt (mCons (mOp fIx (mVar 0) (mC (.int 0))) mNil)) (mVar 9)) (mC (.int 0)))) (mB (mOpG oEq (mOp fMod (mCb fInt (mCons (mOp fIx (mVar 1) (mC (.int 0))) mNil)) (mVar 9)) (mC (.int 0))))) m_law_pair_right_e10 [9])) _ _ _
  have oi : ∀ x y : Int, oEq (.dat (.int x)) (.dat (.int y)) [] = some (.dat (.bl (decide (x = y))), []) := fun x y => by simp [oEq]
  generalize oEq = o2 at *
  bv_omega
  rw [show (m : Int) + 1 = ((m + 1 : Nat) : Int) by omega, show (1 : Int) = ((1 : Nat) : Int) from rfl, rg_from, show m + 1 - 1 = m by omega]
  refine wLc_filter (β := Nat) (xs := List.range' 1 m) (w := fun k => D.int ((k : Nat) : Int)) (p := fun k => m % k == 0 && i % k == 0) (g := fun k => D.int ((k : Nat) : Int)) rfl (by rw [List.length_range']; omega) (fun k hk => ⟨_, rfl, ?_⟩) ?_
  · have hk := List.mem_range'_1.mp hk
    have k0 : 0 < k := by omega
    have e1 : ∀ a : Nat, decide ((a : Int) % (k : Int) = 0) = (a % k == 0) := fun a => by
      rw [Bool.eq_iff_iff, decide_eq_true_iff, beq_iff_eq]
      omega
    clear hk
    dsimp only [wipeR, List.set_cons_zero, List.set_cons_succ]
    bv_omega
    refine ⟨_, oi _ _, ?_⟩
    refine ⟨_, rfl, ?_⟩
    rw [e1 m]
    cases h : m % k == 0 with
    | false =>
      refine cnd_neg rfl ?_
      exact ⟨rfl, rfl, fun h => by cases h⟩
    | true =>
      refine cnd_pos rfl ?_
      bv_omega
      refine ⟨_, oi _ _, ?_⟩
      refine ⟨_, rfl, ?_⟩
      rw [e1 i]
      refine ⟨rfl, rfl, fun _ => ?_⟩
      bv_omega
      exact ⟨rfl, rfl⟩
  bv_omega
  exact q _
theorem p12 {a b c d : D} {l : List Nat} {g : Nat} {Q : Flo → Prop} (h : l.getLast? = some g)
    (q : Q (.nx [.dat a, .dat b, .dat c, .dat d, x4, x5, x6, .dat (.lst (intN l)), .dat (.lst [.int (g : Int)]), x9] [])) : wS m_law_pair_right_12 [.dat a, .dat b, .dat c, .dat d, x4, x5, x6, .dat (.lst (intN l)), x8, x9] [] Q := by
  obtain ⟨l0, rfl⟩ : ∃ l0, l = l0 ++ [g] := by
    have hne : l ≠ [] := fun z => by rw [z] at h; cases h
    refine ⟨l.dropLast, ?_⟩
    have := List.dropLast_concat_getLast hne
    rw [List.getLast?_eq_some_getLast hne] at h
    rw [← Option.some.inj h, this]
  have ll : (intN (l0 ++ [g])).length = l0.length + 1 := by unfold intN; rw [List.length_map, List.length_append]; rfl
  have lz : l0.length < (intN (l0 ++ [g])).length := by omega
  have lg : (intN (l0 ++ [g]))[l0.length]'lz = .int (g : Int) := by simp [intN]
  have gx : ∀ (μ : Mu) (K : DL.R → Prop), K (.dat (.int (g : Int))) → oK (fIx (.dat (.lst (intN (l0 ++ [g])))) (.dat (.int ((l0.length : Nat) : Int))) μ) K := fun μ K q => ixL lz (by rw [lg]; exact q)
  generalize intN (l0 ++ [g]) = LL at *
  bv_omega
  rw [show (LL.length : Int) - 1 = ((l0.length : Nat) : Int) by omega]
  refine gx _ _ ?_
  bv_omega
  exact q
theorem p14 {a b d : D} {m l i f : Int} {j : DL.R} (h1 : m_law_joined [.dat (gr m l), .dat (gr i f)] [] = some (j, [])) (h2 : m_law_joined [.dat (gr i f), .dat (gr m l)] [] = some (j, []))
    (hj : j = .dat d ∨ ∃ xs, j = .fr xs ∧ d = .lst xs) (o : okD 5 (.lst [d, d]) = true) : wS m_law_pair_right_14 [.dat a, .dat b, .dat (gr m l), .dat (gr i f), x4, x5, x6, x7, .dat d, x9] [] fun fl => fl = .rt (.dat (.bl true)) [] := by
  have s1 := same_refl 5 (.lst [d, d]) o
  rw [← e_law_same] at s1
  clear o
  generalize gr m l = G1 at *
  generalize gr i f = G2 at *
  rcases hj with rfl | ⟨xs, rfl, rfl⟩
  · bv_omega
    try rfl
  · bv_omega
    try rfl
theorem p13t {δ : Sl} {Q : Flo → Prop} (h : δ[8]? = some (.dat .non)) (st : wS (mSeq m_law_pair_right_11 m_law_pair_right_12) δ [] Q) : wS m_law_pair_right_13 δ [] Q := by
  obtain ⟨fl, q1, q2⟩ := st
  refine ⟨fl, ?_, q2⟩
  show mIfS (mB (mOp (fIsN false) (mVar 8) (mC .non))) (mSeq m_law_pair_right_11 m_law_pair_right_12) mNx _ _ = _
  generalize mSeq m_law_pair_right_11 m_law_pair_right_12 = XX at *
  simp [h, q1]
theorem p13n {c d : D} {g : Nat} {Q : Flo → Prop} (hm : m ≤ 12) (t10 : (dvN m i).getLast? = some g)
    (q : ∀ y7 y9, Q (.nx [.dat (T m l), .dat (T i f), .dat c, .dat d, x4, x5, x6, .dat y7, .dat (.lst [.int (g : Int)]), y9] [])) : wS m_law_pair_right_13 [.dat (T m l), .dat (T i f), .dat c, .dat d, x4, x5, x6, x7, .dat .non, x9] [] Q :=
  p13t rfl (wS_seq (p11 hm fun y9 => p12 t10 (q _ y9)))
theorem pair_ok (h0 : 0 < m) (hm : m ≤ 12) (hl : l < m) (g0 : 0 < i) (hi : i ≤ 12) (hf : f < i) (t1 : finL m l i f = (i % m == 0 && f % m == l)) (t1' : finL i f m l = (m % i == 0 && l % i == f))
    (t2 : nrN (begN m l (m * i) ++ begN i f (m * i)) (min m i) = some (wdN m l i f, l % wdN m l i f)) (t3 : wdN i f m l = wdN m l i f) (t4 : f % wdN m l i f = l % wdN m l i f) (t5 : (begN m l (m * i) ++ begN i f (m * i)) ≠ []) (t6 : (begN m l (m * i) ++ begN i f (m * i)).length ≤ 100)
    (t7 : (orN m l i f = none ∧ botN m l i f = []) ∨ ∃ w s b0 b1 R, orN m l i f = some (w, s) ∧ botN m l i f = b0 :: b1 :: R ∧ b0 + w = b1 ∧ b0 = s) (t8 : orN i f m l = orN m l i f)
    (t9 : ((l : Int) - f) % (Nat.gcd m i : Nat) = 0 → mtN m l i f ≠ []) (t9' : ((f : Int) - l) % (Nat.gcd i m : Nat) = 0 → mtN i f m l ≠ []) (t10 : (dvN m i).getLast? = some (Nat.gcd m i)) :
    m_law_pair_right [.dat (T m l), .dat (T i f)] [] = some (.dat (.bl true), []) := by
  have f1 := lfiner_ok h0 hm hl g0 hi hf
  have f2 := lfiner_ok g0 hi hf h0 hm hl
  rw [t1, ← le_nat hl] at f1
  rw [t1', ← le_nat hf] at f2
  have na := narrow_ok h0 hm hl g0 hi hf t5 t6
  rw [t2] at na
  have a1 := and_ok h0 hm g0 hi hl hf
  have a2 := and_ok g0 hi h0 hm hf hl
  rw [t3] at a2
  have ec : ((f : Int) % (wdN m l i f : Nat)) = ((l : Int) % (wdN m l i f : Nat)) := by
    have := congrArg (fun x : Nat => (x : Int)) t4
    simpa [Int.natCast_emod] using this
  rw [ec] at a2
  have hlen : (botN m l i f).length ≠ 1 := by
    rcases t7 with ⟨_, e⟩ | ⟨w, s, b0, b1, R, _, e, _⟩ <;> rw [e] <;> simp
  have wi := wide_ok h0 hm hl g0 hi hf hlen
  have o1 := or_ok h0 hm g0 hi hf t9
  have o2 := or_ok g0 hi h0 hm hl t9'
  have key : wF m_law_pair_right [.dat (T m l), .dat (T i f)] [] fun r μ => r = .dat (.bl true) ∧ μ = [] := by
    unfold m_law_pair_right
    refine fn_wp rfl ?_
    dsimp only [List.cons_append, List.nil_append, List.reduceReplicate, Nat.reduceSub]
    refine wS_seq ⟨_, p0 h0 hl g0 hf, ?_⟩
    refine wS_seq (p1 f1 f2 ?_)
    refine wS_seq (p2 h0 g0 ?_)
    rw [same_eq h0 hl g0 hf]
    refine wS_seq ⟨_, p4, ?_⟩
    refine wS_seq (p5 a1 na ?_)
    show wS _ [.dat (T m l), .dat (T i f), .dat (gr m l), .dat (gr i f), _, _, _, .dat (gr (wdN m l i f) ((l : Int) % (wdN m l i f : Nat))), .dat (.tup [.int ((wdN m l i f : Nat) : Int), .int ((l % wdN m l i f : Nat) : Int)]), _] [] _
    rw [Int.natCast_emod]
    refine wS_seq (p7 a2 ?_)
    refine wS_seq (p8 wi ?_)
    clear f1 f2 na a1 a2 wi
    show wS (mSeq m_law_pair_right_13 m_law_pair_right_14) _ _ _
    rcases t7 with ⟨e1, e2⟩ | ⟨w, s, b0, b1, R, e1, e2, e3, e4⟩
    · rw [e1] at t8
      have x1 : orX m l i f = .inr (.exc 900 ["common"] [.int (Nat.gcd m i : Nat)], []) := by unfold orX; rw [e1]
      have x2 : orX i f m l = .inr (.exc 900 ["common"] [.int (Nat.gcd m i : Nat)], []) := by unfold orX; rw [t8, Nat.gcd_comm i m]
      rw [x1] at o1
      rw [x2] at o2
      have j1 := join_f o1
      have j2 := join_f o2
      clear o1 o2 x1 x2 t1 t1' t2 t3 t4 t5 t6 t8 t9 t9'
      rw [e2]
      have e5 : wdD [] = .non := rfl
      rw [e5]
      refine wS_seq ?_
      generalize Nat.gcd m i = g at *
      refine p13n hm t10 fun y7 y9 => ?_
      obtain ⟨_, q1, rfl⟩ := p14 (a := T m l) (b := T i f) (m := m) (l := l) (i := i) (f := f) (j := .fr [.int (g : Int)]) (d := .lst [.int (g : Int)]) j1 j2 (.inr ⟨_, rfl, rfl⟩) rfl
      exact ⟨_, q1, ⟨(.dat (.bl true), []), rfl, rfl, rfl⟩⟩
    · rw [e1] at t8
      have x1 : orX m l i f = .inl (.dat (gr (w : Int) (s : Int)), []) := by unfold orX; rw [e1]
      have x2 : orX i f m l = .inl (.dat (gr (w : Int) (s : Int)), []) := by unfold orX; rw [t8]
      rw [x1] at o1
      rw [x2] at o2
      have j1 := join_t o1
      have j2 := join_t o2
      clear o1 o2 x1 x2 t1 t1' t2 t3 t4 t5 t6 t8 t9 t9'
      rw [e2]
      have e5 : wdD (b0 :: b1 :: R) = .tup [.int (w : Int), .int (s : Int)] := by
        show D.tup [.int ((b1 : Int) - (b0 : Int)), .int (b0 : Int)] = _
        rw [← e4, ← e3, show (((b0 + w : Nat) : Int) - (b0 : Int)) = (w : Int) by omega]
      rw [e5]
      refine wS_seq ⟨.nx _ _, rfl, ?_⟩
      obtain ⟨_, q1, rfl⟩ := p14 (a := T m l) (b := T i f) (m := m) (l := l) (i := i) (f := f) (j := .dat (.tup [.int (w : Int), .int (s : Int)])) (d := .tup [.int (w : Int), .int (s : Int)]) j1 j2 (.inl rfl) rfl
      exact ⟨_, q1, ⟨(.dat (.bl true), []), rfl, rfl, rfl⟩⟩
  obtain ⟨r, μ, h1, rfl, rfl⟩ := key
  exact h1
end
end NS
set_option Elab.async false
set_option linter.all false
set_option maxRecDepth 100000
set_option maxHeartbeats 1000000
namespace NS
open PySem PySem.Spec PyProof.Rows L2 DL
theorem e_law_of : m_law_of = M_of := rfl
section
variable {m l i f : Nat}
theorem begm_eq (hl : l < m) : begN m l (m * i) = begM m l i := beg_mul hl i
theorem begm_eq' (hf : f < i) : begN i f (m * i) = begM i f m := by
  rw [Nat.mul_comm]
  exact beg_mul hf m
theorem pair_all (h0 : 0 < m) (hm : m ≤ 12) (hl : l < m) (g0 : 0 < i) (hi : i ≤ 12) (hf : f < i) : m_law_pair_right [.dat (T m l), .dat (T i f)] [] = some (.dat (.bl true), []) := by
  obtain ⟨a1, a2, a3⟩ := tab_ok h0 hm hl g0 hi hf
  obtain ⟨b1, b2, b3⟩ := tab_ok g0 hi hf h0 hm hl
  unfold tb1 at a1 b1
  unfold tb2 at a2
  unfold tb3 at a3 b3
  simp only [Bool.and_eq_true] at a2 a3 b3
  obtain ⟨⟨⟨⟨c1, c2⟩, c3⟩, c4⟩, c5⟩ := a2
  obtain ⟨⟨d1, d2⟩, d3⟩ := a3
  obtain ⟨⟨_, _⟩, d3'⟩ := b3
  have eB := begm_eq (m := m) (l := l) (i := i) hl
  have eB' := begm_eq' (m := m) (i := i) (f := f) hf
  refine pair_ok h0 hm hl g0 hi hf (beq_iff_eq.mp a1) (beq_iff_eq.mp b1) ?_ (beq_iff_eq.mp c2) (beq_iff_eq.mp c3) ?_ ?_ ?_ (beq_iff_eq.mp d2) ?_ ?_ (tabd_ok h0 hm g0 hi)
  · rw [eB, eB', nr_eq]
    exact beq_iff_eq.mp c1
  · rw [eB, eB']
    intro h
    rw [h] at c4
    cases c4
  · rw [eB, eB']
    exact Nat.le_of_ble_eq_true c5
  · rw [bot_eq hl]
    split at d1
    · rename_i w s b0 b1 R e1 e2
      rw [Bool.and_eq_true, beq_iff_eq, beq_iff_eq] at d1
      exact .inr ⟨w, s, b0, b1, R, e1, e2, d1.1, d1.2⟩
    · rename_i e1 e2
      exact .inl ⟨e1, e2⟩
    · cases d1
  · intro h
    rw [decide_eq_true h, beq_iff_eq] at d3
    unfold orN at d3
    rw [if_pos h] at d3
    intro z
    rw [z] at d3
    cases d3
  · intro h
    rw [decide_eq_true h, beq_iff_eq] at d3'
    unfold orN at d3'
    rw [if_pos h] at d3'
    intro z
    rw [z] at d3'
    cases d3'
end
theorem turn_ok {b : List D} {c : Int} {ν : Mu} {x1 x2 x3 x4 x5 : DL.R} (hb : Bx c b) (hc : c ≤ 20000) : wS m_law_right_b8 [.cel 0, x1, x2, x3, x4, x5] (.l b :: ν) fun fl => ∃ b' y2 y3 y4 y5, Bx (c + 6) b' ∧ fl = .nx [.cel 0, x1, y2, y3, y4, y5] (.l b' :: ν) := by
  obtain ⟨r1, b1, r10, r11, h1, e1⟩ := take_ok hb (by omega) (n := 12) (by omega) (by omega)
  obtain ⟨m, hm⟩ : ∃ m : Nat, 1 + r1 = (m : Int) := ⟨(1 + r1).toNat, by omega⟩
  obtain ⟨r2, b2, r20, r21, h2, e2⟩ := take_ok h1 (by omega) (n := 12) (by omega) (by omega)
  obtain ⟨d, b3, hd, h3, e3⟩ := of_ok h2 (by omega) (xs := [.int (1 + r2), .int (m : Int), .int (if (1 : Int) < (m : Int) / 2 then (m : Int) / 2 else 1), .int (if 2 * (m : Int) < 12 then 2 * (m : Int) else 12)]) (by simp) (by simp)
  obtain ⟨i, hi0, hi, rfl⟩ : ∃ i : Nat, 0 < i ∧ i ≤ 12 ∧ d = .int (i : Int) := by
    simp only [List.mem_cons, List.not_mem_nil, or_false] at hd
    rcases hd with rfl | rfl | rfl | rfl
    · exact ⟨(1 + r2).toNat, by omega, by omega, by congr 1; omega⟩
    · exact ⟨m, by omega, by omega, rfl⟩
    · refine ⟨(if (1 : Int) < (m : Int) / 2 then (m : Int) / 2 else 1).toNat, ?_, ?_, by congr 1; split <;> omega⟩ <;> split <;> omega
    · refine ⟨(if 2 * (m : Int) < 12 then 2 * (m : Int) else 12).toNat, ?_, ?_, by congr 1; split <;> omega⟩ <;> split <;> omega
  obtain ⟨r4, b4, r40, r41, h4, e4⟩ := take_ok h3 (by omega) (n := (m : Int)) (by omega) (by omega)
  obtain ⟨l, rfl⟩ : ∃ l : Nat, r4 = (l : Int) := ⟨r4.toNat, by omega⟩
  obtain ⟨r5, b5, r50, r51, h5, e5⟩ := take_ok h4 (by omega) (n := (i : Int)) (by omega) (by omega)
  obtain ⟨d2, b6, hd2, h6, e6⟩ := of_ok h5 (by omega) (xs := [.int r5, .int ((l : Int) % (i : Int))]) (by simp) (by simp)
  obtain ⟨f, hf, rfl⟩ : ∃ f : Nat, f < i ∧ d2 = .int (f : Int) := by
    simp only [List.mem_cons, List.not_mem_nil, or_false] at hd2
    rcases hd2 with rfl | rfl
    · exact ⟨r5.toNat, by omega, by congr 1; omega⟩
    · refine ⟨l % i, Nat.mod_lt _ hi0, by rw [Int.natCast_emod]⟩
  have pa := pair_all (m := m) (l := l) (i := i) (f := f) (by omega) (by omega) (by omega) hi0 hi hf
  rw [← e_law_take] at e1 e2 e4 e5
  rw [← e_law_of] at e3 e6
  show wS (mSeq m_law_right_2 (mSeq m_law_right_3 (mSeq m_law_right_4 (mSeq m_law_right_5 m_law_right_7)))) _ _ _
  generalize hT : mSeq m_law_right_3 (mSeq m_law_right_4 (mSeq m_law_right_5 m_law_right_7)) = TT
  clear hd hd2
  bv_omega
  rw [hm]
  subst hT
  generalize hT : mSeq m_law_right_4 (mSeq m_law_right_5 m_law_right_7) = TT
  bv_omega
  refine ⟨_, rfl, ?_⟩
  bv_omega
  refine op_mul' (cMul_r (by omega) (by omega)) ?_
  bv_omega
  refine ⟨_, rfl, ?_⟩
  bv_omega
  subst hT
  generalize hT : mSeq m_law_right_5 m_law_right_7 = TT
  bv_omega
  subst hT
  generalize hT : m_law_right_7 = TT
  bv_omega
  subst hT
  bv_omega
  exact ⟨_, _, _, _, _, h6.mono (by omega), rfl⟩
theorem right_ok : Right m_law_right 30 10000 := by
  refine ⟨by decide, fun b c hb hc => ?_⟩
  have hh := hand_ok
  have key : wF m_law_right [.cel 0] [.l b] fun r μ => ∃ b', Bx (c + 30) b' ∧ r = .dat (.bl true) ∧ μ = [.l b'] := by
    unfold m_law_right
    refine fn_wp rfl ?_
    dsimp only [List.cons_append, List.nil_append, List.reduceReplicate, Nat.reduceSub]
    generalize hT : mSeq m_law_right_9 m_law_right_10 = TT
    bv_omega
    subst hT
    clear hh
    generalize hB : m_law_right_b8 = BB
    have fr : wS (mSeq (mFor (mItR1 (mCons (mC (.int 5)) mNil)) (tgName 1) BB) m_law_right_10) [.cel 0, .no, .no, .no, .no, .no] [.l b] fun fl => oK (retF 1 fl) fun z => ∃ b', Bx (c + 30) b' ∧ z.1 = .dat (.bl true) ∧ z.2 = [.l b'] := by
      bv_omega
      rw [← List.map_id (rgD 0 5)]
      refine wL_inv (w := id) (fun rest δ μ => ∃ b' c' x1 x2 x3 x4 x5, δ = [.cel 0, x1, x2, x3, x4, x5] ∧ μ = [.l b'] ∧ Bx c' b' ∧ c' + 6 * rest.length = c + 30) ⟨b, c, _, _, _, _, _, rfl, rfl, hb, by rw [rgD_len]; omega⟩ ?_ ?_
      · rintro i rest δ μ ⟨b', c', x1, x2, x3, x4, x5, rfl, rfl, h1, h2⟩
        rw [List.length_cons] at h2
        refine ⟨rfl, _, rfl, ?_⟩
        dsimp only [List.set_cons_zero, List.set_cons_succ, id]
        subst hB
        obtain ⟨fl, g1, b2, y2, y3, y4, y5, g2, rfl⟩ := turn_ok (ν := []) (x1 := .dat i) (x2 := x2) (x3 := x3) (x4 := x4) (x5 := x5) h1 (by omega)
        exact ⟨_, g1, b2, _, _, _, _, _, _, rfl, rfl, g2, by omega⟩
      · rintro δ μ ⟨b', c', x1, x2, x3, x4, x5, rfl, rfl, h1, h2⟩
        refine ⟨rfl, ?_⟩
        bv_omega
        refine ⟨(.dat (.bl true), [.l b']), ?_, b', h1.mono (by simp at h2; omega), rfl, rfl⟩
        dsimp only [retF, retR]
        rw [lowM_1]
        rfl
    rw [← hB] at fr
    exact fr
  obtain ⟨r, μ, h1, b', h2, rfl, rfl⟩ := key
  exact ⟨b', h2, h1⟩
theorem law_true : ∀ ns : List Int, ns.length ≤ 63 → m_law [.dat (.scr ns)] [] = some (.dat (.bl true), []) :=
  fun ns h => lawB (most := 3) (by omega) (by omega) (by omega) right_ok ns h
end NS
set_option maxHeartbeats 4000000
namespace NS
open PySem PySem.Spec PyProof.Rows L2 DL
theorem all_mk {l : PySem.W.OpenLaw} {w : World} {K : PySem.W.Frag} {h : Heap} {mg : Str → Option Value} {fa : Addr} (X : K.In h) (G : h.Ns mainGlobals mg) (hfa : mg "law" = some (.ref fa))
    {C_Grid p_Grid_0 p_Grid_1 f1 f2 T2 f3 f4 f5 f6 f7 f8 f9 f10 f11 f12 f13 f14 f15 f16 f17 f18 f19 f20 f21 f22 f23 f24 f25 f26 f27 C_NoGrid NE_NoGrid fE_NoGrid cc_NoGrid cd_NoGrid : Addr}
    {od1 an1 od2 an2 odT2 od3 an3 od4 an4 od5 an5 od6 an6 od7 an7 od8 an8 od9 an9 od10 an10 od11 an11 od12 an12 od13 an13 od14 an14 od15 an15 od16 an16 od17 an17 od18 an18 od19 an19 od20 an20 od21 an21 od22 an22 od23 an23 od24 an24 od25 an25 od26 an26 od27 an27 ddE_NoGrid odE_NoGrid anE_NoGrid cddE_NoGrid cldE_NoGrid : Option Addr}
    {sl1 sl2 slT2 sl3 sl4 sl5 sl6 sl7 sl8 sl9 sl10 sl11 sl12 sl13 sl14 sl15 sl16 sl17 sl18 sl19 sl20 sl21 sl22 sl23 sl24 sl25 sl26 sl27 slE_NoGrid ccsE_NoGrid cslE_NoGrid : Array (Option Value)}
    {oc1 kV1 dc1 pm1 cd1 ct1 oc2 kV2 dc2 pm2 cd2 ct2 ocT2 oc3 kV3 dc3 pm3 cd3 ct3 oc4 kV4 dc4 pm4 cd4 ct4 oc5 kV5 dc5 pm5 cd5 ct5 oc6 kV6 dc6 pm6 cd6 ct6 oc7 kV7 dc7 pm7 cd7 ct7 oc8 kV8 dc8 pm8 cd8 ct8 oc9 kV9 dc9 pm9 cd9 ct9 oc10 kV10 dc10 pm10 cd10 ct10 oc11 kV11 dc11 pm11 cd11 ct11 oc12 kV12 dc12 pm12 cd12 ct12 oc13 kV13 dc13 pm13 cd13 ct13 oc14 kV14 dc14 pm14 cd14 ct14 oc15 kV15 dc15 pm15 cd15 ct15 oc16 kV16 dc16 pm16 cd16 ct16 oc17 kV17 dc17 pm17 cd17 ct17 oc18 kV18 dc18 pm18 cd18 ct18 oc19 kV19 dc19 pm19 cd19 ct19 oc20 kV20 dc20 pm20 cd20 ct20 oc21 kV21 dc21 pm21 cd21 ct21 oc22 kV22 dc22 pm22 cd22 ct22 oc23 kV23 dc23 pm23 cd23 ct23 oc24 kV24 dc24 pm24 cd24 ct24 oc25 kV25 dc25 pm25 cd25 ct25 oc26 kV26 dc26 pm26 cd26 ct26 oc27 kV27 dc27 pm27 cd27 ct27 ocE_NoGrid kVE_NoGrid dcE_NoGrid pmE_NoGrid ctE_NoGrid cclE_NoGrid clE_NoGrid : Value}
    {nT2 : Nat}
    {tT2_0 tkE_NoGrid : Tok}
    {nmE_NoGrid qE_NoGrid tfE_NoGrid : Str}
    {bsE_NoGrid subE_NoGrid : List Value}
    {snE_NoGrid : List Str}
    {abE_NoGrid : Bool}
    {colE_NoGrid : Option Bool}
    {k0E_NoGrid k1E_NoGrid k2E_NoGrid k3E_NoGrid k5E_NoGrid : Option Value}
    {vsE_NoGrid : Array Value}
    (aC_Grid : PySem.W.nsIn K mainGlobals "Grid" = some (some (.ref C_Grid)))
    (pg_Grid : PySem.W.plainGet K C_Grid Str.empty = true)
    (ic_Grid : PySem.W.isClsIn K C_Grid = true)
    (po_Grid : PySem.W.plainOver K C_Grid = true)
    (sa_Grid : PySem.W.findIn K (.ref C_Grid) "__setattr__" = some (some (.builtin "object.__setattr__")))
    (ca_Grid : PySem.W.findIn K (.ref C_Grid) "__class__" = some (some (.builtin "object.__class__")))
    (cn_Grid : PySem.W.specialIn K (.builtin "object.__class__") "__get__" = some (some (.builtin "getset_descriptor.__get__")))
    (ct_Grid : PySem.W.takesIn K (.builtin "object.__class__") = some true)
    (cm_Grid : PySem.W.mroIn K C_Grid (.type "object") = some true)
    (mk_Grid : PySem.W.makesIn K C_Grid = true)
    (kp_Grid : PySem.W.keepIn K (.ref C_Grid) = true)
    (sf_Grid : PySem.W.selfFirst K C_Grid = true)
    (rd_Grid : PySem.W.readsIn K C_Grid (.type "type") = true)
    (ga_Grid : PySem.W.specialIn K (.ref C_Grid) "__getattribute__" = some (some (.builtin "type.__getattribute__")))
    (ty_Grid : PySem.W.typeIn K (.ref C_Grid) = some (.type "type"))
    (subbool_Grid : PySem.W.subIn K (.ref C_Grid) (.type "bool") = some false)
    (subint_Grid : PySem.W.subIn K (.ref C_Grid) (.type "int") = some false)
    (substr_Grid : PySem.W.subIn K (.ref C_Grid) (.type "str") = some false)
    (subtuple_Grid : PySem.W.subIn K (.ref C_Grid) (.type "tuple") = some false)
    (sublist_Grid : PySem.W.subIn K (.ref C_Grid) (.type "list") = some false)
    (busNoneType_Grid : PySem.W.subIn K (.type "NoneType") (.ref C_Grid) = some false)
    (busbool_Grid : PySem.W.subIn K (.type "bool") (.ref C_Grid) = some false)
    (busint_Grid : PySem.W.subIn K (.type "int") (.ref C_Grid) = some false)
    (busstr_Grid : PySem.W.subIn K (.type "str") (.ref C_Grid) = some false)
    (bustuple_Grid : PySem.W.subIn K (.type "tuple") (.ref C_Grid) = some false)
    (buslist_Grid : PySem.W.subIn K (.type "list") (.ref C_Grid) = some false)
    (sa0_Grid : PySem.W.findIn K (.ref C_Grid) "start" = some (some (.ref p_Grid_0)))
    (sg0_Grid : PySem.W.specialIn K (.ref p_Grid_0) "__get__" = some (some (.builtin "member_descriptor.__get__")))
    (st0_Grid : PySem.W.takesIn K (.ref p_Grid_0) = some true)
    (sy0_Grid : PySem.W.typeIn K (.ref p_Grid_0) = some (.type "member_descriptor"))
    (sx0_Grid : PySem.W.slotIn K p_Grid_0 C_Grid = some 0)
    (sa1_Grid : PySem.W.findIn K (.ref C_Grid) "width" = some (some (.ref p_Grid_1)))
    (sg1_Grid : PySem.W.specialIn K (.ref p_Grid_1) "__get__" = some (some (.builtin "member_descriptor.__get__")))
    (st1_Grid : PySem.W.takesIn K (.ref p_Grid_1) = some true)
    (sy1_Grid : PySem.W.typeIn K (.ref p_Grid_1) = some (.type "member_descriptor"))
    (sx1_Grid : PySem.W.slotIn K p_Grid_1 C_Grid = some 1)
    (own_Grid_Grid : PySem.W.subIn K (.ref C_Grid) (.ref C_Grid) = some true)
    (a1 : PySem.W.nsIn K mainGlobals "_law_cells" = some (some (.ref f1)))
    (l1 : K.lookup f1 = some ⟨oc1, od1, .func (PySem.W.fnOf "_law_cells" "_law_cells" (defArgs s_law_cells) (defBody s_law_cells) (defScope s_law_cells) .none kV1 dc1 pm1 an1 cd1 ct1), sl1⟩)
    (c1 : PySem.W.codeIn K cd1 "_law_cells" = true)
    (k1 : PySem.W.keepIn K (.ref f1) = true)
    (a2 : PySem.W.findIn K (.ref C_Grid) "__init__" = some (some (.ref f2)))
    (l2 : K.lookup f2 = some ⟨oc2, od2, .func (PySem.W.fnOf "__init__" "Grid.__init__" (defArgs s_Grid_init) (defBody s_Grid_init) (defScope s_Grid_init) (.ref T2) kV2 dc2 pm2 an2 cd2 ct2), sl2⟩)
    (lT2 : K.lookup T2 = some ⟨ocT2, odT2, .seq [.int 0 tT2_0].toArray nT2, slT2⟩)
    (c2 : PySem.W.codeIn K cd2 "Grid.__init__" = true)
    (k2 : PySem.W.keepIn K (.ref f2) = true)
    (i2 : PySem.W.isFn K (.ref f2) = true)
    (a3 : PySem.W.nsIn K mainGlobals "divisor" = some (some (.ref f3)))
    (l3 : K.lookup f3 = some ⟨oc3, od3, .func (PySem.W.fnOf "divisor" "divisor" (defArgs s_divisor) (defBody s_divisor) (defScope s_divisor) .none kV3 dc3 pm3 an3 cd3 ct3), sl3⟩)
    (c3 : PySem.W.codeIn K cd3 "divisor" = true)
    (k3 : PySem.W.keepIn K (.ref f3) = true)
    (a4 : PySem.W.findIn K (.ref C_Grid) "__and__" = some (some (.ref f4)))
    (l4 : K.lookup f4 = some ⟨oc4, od4, .func (PySem.W.fnOf "__and__" "Grid.__and__" (defArgs s_Grid_and) (defBody s_Grid_and) (defScope s_Grid_and) .none kV4 dc4 pm4 an4 cd4 ct4), sl4⟩)
    (c4 : PySem.W.codeIn K cd4 "Grid.__and__" = true)
    (k4 : PySem.W.keepIn K (.ref f4) = true)
    (i4 : PySem.W.isFn K (.ref f4) = true)
    (a5 : PySem.W.findIn K (.ref C_Grid) "__or__" = some (some (.ref f5)))
    (l5 : K.lookup f5 = some ⟨oc5, od5, .func (PySem.W.fnOf "__or__" "Grid.__or__" (defArgs s_Grid_or) (defBody s_Grid_or) (defScope s_Grid_or) .none kV5 dc5 pm5 an5 cd5 ct5), sl5⟩)
    (c5 : PySem.W.codeIn K cd5 "Grid.__or__" = true)
    (k5 : PySem.W.keepIn K (.ref f5) = true)
    (i5 : PySem.W.isFn K (.ref f5) = true)
    (a6 : PySem.W.findIn K (.ref C_Grid) "is_same" = some (some (.ref f6)))
    (l6 : K.lookup f6 = some ⟨oc6, od6, .func (PySem.W.fnOf "is_same" "Grid.is_same" (defArgs s_Grid_is_same) (defBody s_Grid_is_same) (defScope s_Grid_is_same) .none kV6 dc6 pm6 an6 cd6 ct6), sl6⟩)
    (c6 : PySem.W.codeIn K cd6 "Grid.is_same" = true)
    (k6 : PySem.W.keepIn K (.ref f6) = true)
    (i6 : PySem.W.isFn K (.ref f6) = true)
    (a7 : PySem.W.findIn K (.ref C_Grid) "__eq__" = some (some (.ref f7)))
    (l7 : K.lookup f7 = some ⟨oc7, od7, .func (PySem.W.fnOf "__eq__" "Grid.__eq__" (defArgs s_Grid_eq) (defBody s_Grid_eq) (defScope s_Grid_eq) .none kV7 dc7 pm7 an7 cd7 ct7), sl7⟩)
    (c7 : PySem.W.codeIn K cd7 "Grid.__eq__" = true)
    (k7 : PySem.W.keepIn K (.ref f7) = true)
    (i7 : PySem.W.isFn K (.ref f7) = true)
    (a8 : PySem.W.findIn K (.ref C_Grid) "starts_at" = some (some (.ref f8)))
    (l8 : K.lookup f8 = some ⟨oc8, od8, .func (PySem.W.fnOf "starts_at" "Grid.starts_at" (defArgs s_Grid_starts_at) (defBody s_Grid_starts_at) (defScope s_Grid_starts_at) .none kV8 dc8 pm8 an8 cd8 ct8), sl8⟩)
    (c8 : PySem.W.codeIn K cd8 "Grid.starts_at" = true)
    (k8 : PySem.W.keepIn K (.ref f8) = true)
    (i8 : PySem.W.isFn K (.ref f8) = true)
    (a9 : PySem.W.findIn K (.ref C_Grid) "is_finer" = some (some (.ref f9)))
    (l9 : K.lookup f9 = some ⟨oc9, od9, .func (PySem.W.fnOf "is_finer" "Grid.is_finer" (defArgs s_Grid_is_finer) (defBody s_Grid_is_finer) (defScope s_Grid_is_finer) .none kV9 dc9 pm9 an9 cd9 ct9), sl9⟩)
    (c9 : PySem.W.codeIn K cd9 "Grid.is_finer" = true)
    (k9 : PySem.W.keepIn K (.ref f9) = true)
    (i9 : PySem.W.isFn K (.ref f9) = true)
    (a10 : PySem.W.findIn K (.ref C_Grid) "__le__" = some (some (.ref f10)))
    (l10 : K.lookup f10 = some ⟨oc10, od10, .func (PySem.W.fnOf "__le__" "Grid.__le__" (defArgs s_Grid_le) (defBody s_Grid_le) (defScope s_Grid_le) .none kV10 dc10 pm10 an10 cd10 ct10), sl10⟩)
    (c10 : PySem.W.codeIn K cd10 "Grid.__le__" = true)
    (k10 : PySem.W.keepIn K (.ref f10) = true)
    (i10 : PySem.W.isFn K (.ref f10) = true)
    (a11 : PySem.W.findIn K (.ref C_Grid) "__ge__" = some (some (.ref f11)))
    (l11 : K.lookup f11 = some ⟨oc11, od11, .func (PySem.W.fnOf "__ge__" "Grid.__ge__" (defArgs s_Grid_ge) (defBody s_Grid_ge) (defScope s_Grid_ge) .none kV11 dc11 pm11 an11 cd11 ct11), sl11⟩)
    (c11 : PySem.W.codeIn K cd11 "Grid.__ge__" = true)
    (k11 : PySem.W.keepIn K (.ref f11) = true)
    (i11 : PySem.W.isFn K (.ref f11) = true)
    (a12 : PySem.W.findIn K (.ref C_Grid) "__gt__" = some (some (.ref f12)))
    (l12 : K.lookup f12 = some ⟨oc12, od12, .func (PySem.W.fnOf "__gt__" "Grid.__gt__" (defArgs s_Grid_gt) (defBody s_Grid_gt) (defScope s_Grid_gt) .none kV12 dc12 pm12 an12 cd12 ct12), sl12⟩)
    (c12 : PySem.W.codeIn K cd12 "Grid.__gt__" = true)
    (k12 : PySem.W.keepIn K (.ref f12) = true)
    (i12 : PySem.W.isFn K (.ref f12) = true)
    (a13 : PySem.W.findIn K (.ref C_Grid) "__lt__" = some (some (.ref f13)))
    (l13 : K.lookup f13 = some ⟨oc13, od13, .func (PySem.W.fnOf "__lt__" "Grid.__lt__" (defArgs s_Grid_lt) (defBody s_Grid_lt) (defScope s_Grid_lt) .none kV13 dc13 pm13 an13 cd13 ct13), sl13⟩)
    (c13 : PySem.W.codeIn K cd13 "Grid.__lt__" = true)
    (k13 : PySem.W.keepIn K (.ref f13) = true)
    (i13 : PySem.W.isFn K (.ref f13) = true)
    (a14 : PySem.W.findIn K (.ref C_Grid) "__or__" = some (some (.ref f14)))
    (l14 : K.lookup f14 = some ⟨oc14, od14, .func (PySem.W.fnOf "__or__" "Grid.__or__" (defArgs s_XGrid_or) (defBody s_XGrid_or) (defScope s_XGrid_or) .none kV14 dc14 pm14 an14 cd14 ct14), sl14⟩)
    (c14 : PySem.W.codeIn K cd14 "Grid.__or__" = true)
    (k14 : PySem.W.keepIn K (.ref f14) = true)
    (i14 : PySem.W.isFn K (.ref f14) = true)
    (a15 : PySem.W.nsIn K mainGlobals "_law_joined" = some (some (.ref f15)))
    (l15 : K.lookup f15 = some ⟨oc15, od15, .func (PySem.W.fnOf "_law_joined" "_law_joined" (defArgs s_law_joined) (defBody s_law_joined) (defScope s_law_joined) .none kV15 dc15 pm15 an15 cd15 ct15), sl15⟩)
    (c15 : PySem.W.codeIn K cd15 "_law_joined" = true)
    (k15 : PySem.W.keepIn K (.ref f15) = true)
    (a16 : PySem.W.nsIn K mainGlobals "_law_same" = some (some (.ref f16)))
    (l16 : K.lookup f16 = some ⟨oc16, od16, .func (PySem.W.fnOf "_law_same" "_law_same" (defArgs s_law_same) (defBody s_law_same) (defScope s_law_same) .none kV16 dc16 pm16 an16 cd16 ct16), sl16⟩)
    (c16 : PySem.W.codeIn K cd16 "_law_same" = true)
    (k16 : PySem.W.keepIn K (.ref f16) = true)
    (a17 : PySem.W.nsIn K mainGlobals "_law_hand_right" = some (some (.ref f17)))
    (l17 : K.lookup f17 = some ⟨oc17, od17, .func (PySem.W.fnOf "_law_hand_right" "_law_hand_right" (defArgs s_law_hand_right) (defBody s_law_hand_right) (defScope s_law_hand_right) .none kV17 dc17 pm17 an17 cd17 ct17), sl17⟩)
    (c17 : PySem.W.codeIn K cd17 "_law_hand_right" = true)
    (k17 : PySem.W.keepIn K (.ref f17) = true)
    (a18 : PySem.W.nsIn K mainGlobals "_law_take" = some (some (.ref f18)))
    (l18 : K.lookup f18 = some ⟨oc18, od18, .func (PySem.W.fnOf "_law_take" "_law_take" (defArgs s_law_take) (defBody s_law_take) (defScope s_law_take) .none kV18 dc18 pm18 an18 cd18 ct18), sl18⟩)
    (c18 : PySem.W.codeIn K cd18 "_law_take" = true)
    (k18 : PySem.W.keepIn K (.ref f18) = true)
    (a19 : PySem.W.nsIn K mainGlobals "_law_of" = some (some (.ref f19)))
    (l19 : K.lookup f19 = some ⟨oc19, od19, .func (PySem.W.fnOf "_law_of" "_law_of" (defArgs s_law_of) (defBody s_law_of) (defScope s_law_of) .none kV19 dc19 pm19 an19 cd19 ct19), sl19⟩)
    (c19 : PySem.W.codeIn K cd19 "_law_of" = true)
    (k19 : PySem.W.keepIn K (.ref f19) = true)
    (a20 : PySem.W.nsIn K mainGlobals "_law_is_finer" = some (some (.ref f20)))
    (l20 : K.lookup f20 = some ⟨oc20, od20, .func (PySem.W.fnOf "_law_is_finer" "_law_is_finer" (defArgs s_law_is_finer) (defBody s_law_is_finer) (defScope s_law_is_finer) .none kV20 dc20 pm20 an20 cd20 ct20), sl20⟩)
    (c20 : PySem.W.codeIn K cd20 "_law_is_finer" = true)
    (k20 : PySem.W.keepIn K (.ref f20) = true)
    (a21 : PySem.W.nsIn K mainGlobals "_law_begins" = some (some (.ref f21)))
    (l21 : K.lookup f21 = some ⟨oc21, od21, .func (PySem.W.fnOf "_law_begins" "_law_begins" (defArgs s_law_begins) (defBody s_law_begins) (defScope s_law_begins) .none kV21 dc21 pm21 an21 cd21 ct21), sl21⟩)
    (c21 : PySem.W.codeIn K cd21 "_law_begins" = true)
    (k21 : PySem.W.keepIn K (.ref f21) = true)
    (a22 : PySem.W.nsIn K mainGlobals "_law_narrow" = some (some (.ref f22)))
    (l22 : K.lookup f22 = some ⟨oc22, od22, .func (PySem.W.fnOf "_law_narrow" "_law_narrow" (defArgs s_law_narrow) (defBody s_law_narrow) (defScope s_law_narrow) .none kV22 dc22 pm22 an22 cd22 ct22), sl22⟩)
    (c22 : PySem.W.codeIn K cd22 "_law_narrow" = true)
    (k22 : PySem.W.keepIn K (.ref f22) = true)
    (a23 : PySem.W.nsIn K mainGlobals "_law_wide" = some (some (.ref f23)))
    (l23 : K.lookup f23 = some ⟨oc23, od23, .func (PySem.W.fnOf "_law_wide" "_law_wide" (defArgs s_law_wide) (defBody s_law_wide) (defScope s_law_wide) .none kV23 dc23 pm23 an23 cd23 ct23), sl23⟩)
    (c23 : PySem.W.codeIn K cd23 "_law_wide" = true)
    (k23 : PySem.W.keepIn K (.ref f23) = true)
    (a24 : PySem.W.nsIn K mainGlobals "_law_pair_right" = some (some (.ref f24)))
    (l24 : K.lookup f24 = some ⟨oc24, od24, .func (PySem.W.fnOf "_law_pair_right" "_law_pair_right" (defArgs s_law_pair_right) (defBody s_law_pair_right) (defScope s_law_pair_right) .none kV24 dc24 pm24 an24 cd24 ct24), sl24⟩)
    (c24 : PySem.W.codeIn K cd24 "_law_pair_right" = true)
    (k24 : PySem.W.keepIn K (.ref f24) = true)
    (a25 : PySem.W.nsIn K mainGlobals "_law_right" = some (some (.ref f25)))
    (l25 : K.lookup f25 = some ⟨oc25, od25, .func (PySem.W.fnOf "_law_right" "_law_right" (defArgs s_law_right) (defBody s_law_right) (defScope s_law_right) .none kV25 dc25 pm25 an25 cd25 ct25), sl25⟩)
    (c25 : PySem.W.codeIn K cd25 "_law_right" = true)
    (k25 : PySem.W.keepIn K (.ref f25) = true)
    (a26 : PySem.W.nsIn K mainGlobals "_law_box" = some (some (.ref f26)))
    (l26 : K.lookup f26 = some ⟨oc26, od26, .func (PySem.W.fnOf "_law_box" "_law_box" (defArgs s_law_box) (defBody s_law_box) (defScope s_law_box) .none kV26 dc26 pm26 an26 cd26 ct26), sl26⟩)
    (c26 : PySem.W.codeIn K cd26 "_law_box" = true)
    (k26 : PySem.W.keepIn K (.ref f26) = true)
    (a27 : PySem.W.nsIn K mainGlobals "law" = some (some (.ref f27)))
    (l27 : K.lookup f27 = some ⟨oc27, od27, .func (PySem.W.fnOf "law" "law" (defArgs s_law) (defBody s_law) (defScope s_law) .none kV27 dc27 pm27 an27 cd27 ct27), sl27⟩)
    (c27 : PySem.W.codeIn K cd27 "law" = true)
    (k27 : PySem.W.keepIn K (.ref f27) = true)
    (zb_ValueError : PySem.W.nsIn K mainGlobals "ValueError" = some none)
    (zb_LookupError : PySem.W.nsIn K mainGlobals "LookupError" = some none)
    (rc_Grid_BitAnd : PySem.W.findIn K (.ref C_Grid) (dunderR (Operator.BitAnd).info.2) = some none)
    (io_BitAnd : PySem.W.findIn K (.type "int") (PySem.dunder (Operator.BitAnd).info.2) = some (some (.builtin "int.__and__")))
    (ir_BitAnd : PySem.W.findIn K (.type "int") (dunderR (Operator.BitAnd).info.2) = some (some (.builtin "int.__rand__")))
    (aC_NoGrid : PySem.W.nsIn K mainGlobals "NoGrid" = some (some (.ref C_NoGrid)))
    (be_NoGrid : PySem.W.subIn K (.ref C_NoGrid) (.type "BaseException") = some true)
    (ic_NoGrid : PySem.W.isClsIn K C_NoGrid = true)
    (ty_NoGrid : PySem.W.typeIn K (.ref C_NoGrid) = some (.type "type"))
    (eg_NoGrid : PySem.W.findIn K (.ref C_NoGrid) "__getattribute__" = some (some (.builtin "BaseException.__getattribute__")))
    (ek_NoGrid : PySem.W.findIn K (.ref C_NoGrid) "__getattr__" = some none)
    (ed_NoGrid : PySem.W.hasDictIn K C_NoGrid = true)
    (ca_NoGrid : PySem.W.findIn K (.ref C_NoGrid) "__class__" = some (some (.builtin "object.__class__")))
    (cn_NoGrid : PySem.W.specialIn K (.builtin "object.__class__") "__get__" = some (some (.builtin "getset_descriptor.__get__")))
    (ct_NoGrid : PySem.W.takesIn K (.builtin "object.__class__") = some true)
    (cm_NoGrid : PySem.W.mroIn K C_NoGrid (.type "object") = some true)
    (own_NoGrid_NoGrid : PySem.W.subIn K (.ref C_NoGrid) (.ref C_NoGrid) = some true)
    (sbValueError_NoGrid : PySem.W.subIn K (.ref C_NoGrid) (.type "ValueError") = some true)
    (sbLookupError_NoGrid : PySem.W.subIn K (.ref C_NoGrid) (.type "LookupError") = some false)
    (nf_NoGrid_common : PySem.W.findIn K (.ref C_NoGrid) "common" = some none)
    (lk_NoGrid : K.lookup C_NoGrid = some (excClassObj nmE_NoGrid qE_NoGrid C_NoGrid NE_NoGrid bsE_NoGrid [.type "ValueError", .type "Exception", .type "BaseException", .type "object"] true snE_NoGrid subE_NoGrid abE_NoGrid colE_NoGrid ddE_NoGrid k0E_NoGrid k1E_NoGrid k2E_NoGrid k3E_NoGrid k5E_NoGrid "ValueError.__new__"))
    (sa_NoGrid : PySem.W.findIn K (.ref C_NoGrid) "__setattr__" = some (some (.builtin "object.__setattr__")))
    (kp_NoGrid : PySem.W.keepIn K (.ref C_NoGrid) = true)
    (in_NoGrid : PySem.W.findIn K (.ref C_NoGrid) "__init__" = some (some (.ref fE_NoGrid)))
    (tI_NoGrid : PySem.W.typeIn K (.ref fE_NoGrid) = some (.type "function"))
    (hH_NoGrid : PySem.W.mroIn K C_NoGrid (.ref C_NoGrid) = some true)
    (hB_NoGrid : PySem.W.subIn K (.ref C_NoGrid) (.type "ValueError") = some true)
    (no0_NoGrid : PySem.W.findIn K (.ref C_NoGrid) "common" = some none)
    (lf_NoGrid : K.lookup fE_NoGrid = some ⟨ocE_NoGrid, odE_NoGrid, .func (PySem.W.fnX "__init__" "NoGrid.__init__" (defArgs s_er_NoGrid) (defBody s_er_NoGrid) (defScope s_er_NoGrid) [("__class__", cc_NoGrid)] .none kVE_NoGrid dcE_NoGrid pmE_NoGrid anE_NoGrid (.ref cd_NoGrid) ctE_NoGrid), slE_NoGrid⟩)
    (cf_NoGrid : PySem.W.codeIn K (.ref cd_NoGrid) "NoGrid.__init__" = true)
    (lc_NoGrid : K.lookup cd_NoGrid = some ⟨cclE_NoGrid, cddE_NoGrid, .fields vsE_NoGrid, ccsE_NoGrid⟩)
    (mu_vs_NoGrid : vsE_NoGrid[2]? = some (.str tfE_NoGrid tkE_NoGrid))
    (mu_fi_NoGrid : ((l.prog.main.file : Str) == tfE_NoGrid) = true)
    (lx_NoGrid : K.lookup cc_NoGrid = some ⟨clE_NoGrid, cldE_NoGrid, .cell (some (.ref C_NoGrid)), cslE_NoGrid⟩)
    (kf_NoGrid : PySem.W.keepIn K (.ref fE_NoGrid) = true)
    (mu_top : (l.prog.main.scope.names.lookup ("super" : Str)).isSome = false)
    (z_super : PySem.W.nsIn K mainGlobals "super" = some none)
    (ho_any : PySem.W.nsIn K cStatics "thirdparty.any" = some none)
    (z0 : PySem.W.nsIn K mainGlobals "len" = some none)
    (z1 : PySem.W.nsIn K mainGlobals "abs" = some none)
    (z2 : PySem.W.nsIn K mainGlobals "int" = some none)
    (z3 : PySem.W.nsIn K mainGlobals "min" = some none)
    (z4 : PySem.W.nsIn K mainGlobals "max" = some none)
    (z5 : PySem.W.nsIn K mainGlobals "list" = some none)
    (z6 : PySem.W.nsIn K mainGlobals "tuple" = some none)
    (z7 : PySem.W.nsIn K mainGlobals "bool" = some none)
    (z8 : PySem.W.nsIn K mainGlobals "str" = some none)
    (z9 : PySem.W.nsIn K mainGlobals "range" = some none)
    (z10 : PySem.W.nsIn K mainGlobals "zip" = some none)
    (z11 : PySem.W.nsIn K mainGlobals "enumerate" = some none)
    (z12 : PySem.W.nsIn K mainGlobals "all" = some none)
    (z13 : PySem.W.nsIn K mainGlobals "any" = some none)
    (z14 : PySem.W.nsIn K mainGlobals "isinstance" = some none) :
    ∃ fd : FuncData, (∀ (s : Shared) (v : Value), BindsTo s fd ⟨[v], []⟩ [("_law_script", v)]) ∧ ∀ base : Heap, K.In base → base.Ns mainGlobals mg → FnOk l.prog w K mg base CX0 9 fa fd ["_law_script"] (spLaw K) := by
  have e := hfa.symm.trans (PySem.W.mg_of X G a27)
  cases e
  have B : Bt mg := ⟨PySem.W.mg_none_of X G z0, PySem.W.mg_none_of X G z1, PySem.W.mg_none_of X G z2, PySem.W.mg_none_of X G z3, PySem.W.mg_none_of X G z4, PySem.W.mg_none_of X G z5, PySem.W.mg_none_of X G z6, PySem.W.mg_none_of X G z7, PySem.W.mg_none_of X G z8, PySem.W.mg_none_of X G z9, PySem.W.mg_none_of X G z10, PySem.W.mg_none_of X G z11, PySem.W.mg_none_of X G z12, PySem.W.mg_none_of X G z13, PySem.W.mg_none_of X G z14⟩
  have F1 := fun_mk (st := s_law_cells) l1 c1 k1
  have F2 := funx_mk (st := s_Grid_init) (dvs := [.int 0]) l2 c2 k2 lT2 rfl (.cons ⟨_, rfl⟩ .nil) (by simp)
  have F3 := fun_mk (st := s_divisor) l3 c3 k3
  have F4 := fun_mk (st := s_Grid_and) l4 c4 k4
  have F5 := fun_mk (st := s_Grid_or) l5 c5 k5
  have F6 := fun_mk (st := s_Grid_is_same) l6 c6 k6
  have F7 := fun_mk (st := s_Grid_eq) l7 c7 k7
  have F8 := fun_mk (st := s_Grid_starts_at) l8 c8 k8
  have F9 := fun_mk (st := s_Grid_is_finer) l9 c9 k9
  have F10 := fun_mk (st := s_Grid_le) l10 c10 k10
  have F11 := fun_mk (st := s_Grid_ge) l11 c11 k11
  have F12 := fun_mk (st := s_Grid_gt) l12 c12 k12
  have F13 := fun_mk (st := s_Grid_lt) l13 c13 k13
  have F14 := fun_mk (st := s_XGrid_or) l14 c14 k14
  have F15 := fun_mk (st := s_law_joined) l15 c15 k15
  have F16 := fun_mk (st := s_law_same) l16 c16 k16
  have F17 := fun_mk (st := s_law_hand_right) l17 c17 k17
  have F18 := fun_mk (st := s_law_take) l18 c18 k18
  have F19 := fun_mk (st := s_law_of) l19 c19 k19
  have F20 := fun_mk (st := s_law_is_finer) l20 c20 k20
  have F21 := fun_mk (st := s_law_begins) l21 c21 k21
  have F22 := fun_mk (st := s_law_narrow) l22 c22 k22
  have F23 := fun_mk (st := s_law_wide) l23 c23 k23
  have F24 := fun_mk (st := s_law_pair_right) l24 c24 k24
  have F25 := fun_mk (st := s_law_right) l25 c25 k25
  have F26 := fun_mk (st := s_law_box) l26 c26 k26
  have F27 := fun_mk (st := s_law) l27 c27 k27
  refine ⟨PySem.W.fnOf "law" "law" (defArgs s_law) (defBody s_law) (defScope s_law) .none kV27 dc27 pm27 an27 cd27 ct27, fun s v => .of_eq rfl, fun base _ _ => ?_⟩
  obtain ⟨cl, hc_Grid, hc_NoGrid, hcall⟩ : ∃ cl : Nat → Addr, cl 0 = C_Grid ∧ cl 900 = C_NoGrid ∧ ∀ c, c < 900 → cl c = C_Grid := ⟨fun c => if c < 900 then (fun c => match c with | 0 => C_Grid | _ => C_Grid) c else match c with | 900 => C_NoGrid | _ => C_NoGrid, rfl, rfl, fun c hc => by
    simp only [if_pos hc]
    clear hc
    revert c
    exact fun c => match c with | 0 => rfl | _ + 1 => rfl⟩
  subst hc_Grid
  subst hc_NoGrid
  have sC_Grid : SlX.SCls K (cl 0) := ⟨pg_Grid, ic_Grid, po_Grid, sa_Grid⟩
  have sI_Grid : SlX.SIsi K (cl 0) := ⟨ca_Grid, cn_Grid, ct_Grid, cm_Grid⟩
  have mC_Grid : mg "Grid" = some (.ref (cl 0)) := PySem.W.mg_of X G aC_Grid
  have L_Grid : ClS K cl 0 ["start", "width"] := ⟨sC_Grid, fun i f h => match i, h with | 0, h => ⟨p_Grid_0, by cases h; exact ⟨sa0_Grid, sg0_Grid, st0_Grid, sy0_Grid, sx0_Grid, by decide⟩⟩ | 1, h => ⟨p_Grid_1, by cases h; exact ⟨sa1_Grid, sg1_Grid, st1_Grid, sy1_Grid, sx1_Grid, by decide⟩⟩ | i + 2, h => by simp at h⟩
  have XC_NoGrid : ExcC K (cl 900) := excC_of eg_NoGrid ek_NoGrid be_NoGrid ed_NoGrid ca_NoGrid cn_NoGrid ct_NoGrid cm_NoGrid
  have XM_law_joined_0 : XmK K cl [900] [900] := ⟨(LAll.mem (.cons (LAll.mem (.cons ⟨_, exm_rn own_NoGrid_NoGrid be_NoGrid ic_NoGrid ty_NoGrid⟩ .nil)) .nil)), (LAll.mem (.cons ⟨900, by simp, exm_rn own_NoGrid_NoGrid be_NoGrid ic_NoGrid ty_NoGrid⟩ .nil))⟩
  have EC_NoGrid : mg "NoGrid" = some (.ref (cl 900)) := PySem.W.mg_of X G aC_NoGrid
  have XB_ValueError : IsX K cl (.type "ValueError") [(900, true)] := ⟨(LAll.mem (.cons ⟨XC_NoGrid, kit_rt sbValueError_NoGrid⟩ .nil))⟩
  have XB_LookupError : IsX K cl (.type "LookupError") [(900, false)] := ⟨(LAll.mem (.cons ⟨XC_NoGrid, kit_rt sbLookupError_NoGrid⟩ .nil))⟩
  have XF_common : FlX K cl "common" [900] := ⟨(LAll.mem (.cons ⟨⟨eg_NoGrid, ek_NoGrid, be_NoGrid, ed_NoGrid⟩, nf_NoGrid_common⟩ .nil))⟩
  have ER_NoGrid := er_NoGrid (P := l.prog) (w := w) (base := base) (cl := cl) ⟨⟨_, _, _, _, _, _, _, _, _, _, _, _, _, _, lk_NoGrid⟩, sa_NoGrid, be_NoGrid, ty_NoGrid, kp_NoGrid⟩ ⟨⟨_, _, _, _, _, _, _, _, _, rfl, lf_NoGrid⟩, rfl, ⟨_, rfl, rfl⟩, cf_NoGrid, ⟨_, _, _, _, _, _, lc_NoGrid, mu_vs_NoGrid, mu_fi_NoGrid⟩, ⟨_, _, _, lx_NoGrid⟩, mu_top, PySem.W.mg_none_of X G z_super, ho_any, kf_NoGrid⟩ hH_NoGrid hB_NoGrid no0_NoGrid in_NoGrid tI_NoGrid (PySem.W.mg_of X G aC_NoGrid)
  have I_Grid : IsO K mg cl 1 "Grid" 0 := ⟨mC_Grid, fun c hc => match c, hc with | 0, _ => ⟨sC_Grid, sI_Grid, kit_rr⟩ | n + 1, h => absurd h (by omega), kit_tr busNoneType_Grid ic_Grid ty_Grid, kit_tr busbool_Grid ic_Grid ty_Grid, kit_tr busint_Grid ic_Grid ty_Grid, kit_tr busstr_Grid ic_Grid ty_Grid, kit_tr bustuple_Grid ic_Grid ty_Grid, kit_tr buslist_Grid ic_Grid ty_Grid⟩
  have BN_ValueError : mg "ValueError" = none := PySem.W.mg_none_of X G zb_ValueError
  have BN_LookupError : mg "LookupError" = none := PySem.W.mg_none_of X G zb_LookupError
  have S_law_cells := fs_law_cells (P := l.prog) (w := w) (base := base) (cl := cl) F1 (PySem.W.mg_of X G a1) B
  have S_Grid_init := fs_Grid_init (P := l.prog) (w := w) (base := base) (cl := cl) F2 ⟨mk_Grid, a2, i2, kp_Grid⟩ mC_Grid B L_Grid mbTup_ne
  have DI_Grid_init := fsd_Grid_init (P := l.prog) (w := w) (base := base) (cl := cl) F2 ⟨mk_Grid, a2, i2, kp_Grid⟩ mC_Grid B L_Grid mbTup_ne
  have S_divisor := fs_divisor (P := l.prog) (w := w) (base := base) (cl := cl) F3 (PySem.W.mg_of X G a3) B
  have A_Grid_and := fa_Grid_and (P := l.prog) (w := w) (base := base) (cl := cl) F4 B S_divisor L_Grid S_Grid_init
  have O_Grid_and : FO l.prog w K mg base cl 3 0 .BitAnd m_Grid_and := ⟨sf_Grid, _, a4, i4, A_Grid_and⟩
  have ON_Grid_and : FON l.prog w K mg base cl 3 0 .BitAnd m_Grid_and := ⟨sf_Grid, ⟨_, a4, i4, A_Grid_and⟩, ⟨_, rc_Grid_BitAnd, Or.inl rfl⟩, ⟨_, io_BitAnd⟩, ⟨_, ir_BitAnd⟩, busint_Grid⟩
  have A_Grid_or := fa_Grid_or (P := l.prog) (w := w) (base := base) (cl := cl) F5 B S_divisor L_Grid S_Grid_init
  have O_Grid_or : FO l.prog w K mg base cl 3 0 .BitOr m_Grid_or := ⟨sf_Grid, _, a5, i5, A_Grid_or⟩
  have A_Grid_is_same := fa_Grid_is_same (P := l.prog) (w := w) (base := base) (cl := cl) F6 B L_Grid
  have S_Grid_is_same : FM l.prog w K mg base cl 1 0 "is_same" 2 m_Grid_is_same := ⟨sC_Grid, _, ⟨a6, i6, k6⟩, A_Grid_is_same⟩
  have A_Grid_eq := fa_Grid_eq (P := l.prog) (w := w) (base := base) (cl := cl) F7 B I_Grid S_Grid_is_same
  have CM_Grid_eq_Eq : FCm l.prog w K mg base cl 2 0 1 .Eq m_Grid_eq := ⟨⟨_, a7, i7, A_Grid_eq⟩, fun t ht => by rcases ht with rfl | rfl | rfl | rfl | rfl | rfl <;> exact notFirst_of (by assumption), fun c' hc => match c', hc with | 0, _ => notFirst_self | q + 1, h => absurd h (by omega)⟩
  have RM_Grid_eq_Eq : FRm l.prog w K mg base cl 2 0 .Eq m_Grid_eq := ⟨⟨_, a7, i7, A_Grid_eq⟩, subint_Grid⟩
  have A_Grid_starts_at := fa_Grid_starts_at (P := l.prog) (w := w) (base := base) (cl := cl) F8 B L_Grid
  have S_Grid_starts_at : FM l.prog w K mg base cl 1 0 "starts_at" 2 m_Grid_starts_at := ⟨sC_Grid, _, ⟨a8, i8, k8⟩, A_Grid_starts_at⟩
  have A_Grid_is_finer := fa_Grid_is_finer (P := l.prog) (w := w) (base := base) (cl := cl) F9 B L_Grid S_Grid_starts_at
  have S_Grid_is_finer : FM l.prog w K mg base cl 2 0 "is_finer" 2 m_Grid_is_finer := ⟨sC_Grid, _, ⟨a9, i9, k9⟩, A_Grid_is_finer⟩
  have A_Grid_le := fa_Grid_le (P := l.prog) (w := w) (base := base) (cl := cl) F10 B S_Grid_is_finer
  have CM_Grid_le_LtE : FCm l.prog w K mg base cl 3 0 1 .LtE m_Grid_le := ⟨⟨_, a10, i10, A_Grid_le⟩, fun t ht => by rcases ht with rfl | rfl | rfl | rfl | rfl | rfl <;> exact notFirst_of (by assumption), fun c' hc => match c', hc with | 0, _ => notFirst_self | q + 1, h => absurd h (by omega)⟩
  have RM_Grid_le_GtE : FRm l.prog w K mg base cl 3 0 .GtE m_Grid_le := ⟨⟨_, a10, i10, A_Grid_le⟩, subint_Grid⟩
  have A_Grid_ge := fa_Grid_ge (P := l.prog) (w := w) (base := base) (cl := cl) F11 B L_Grid
  have RM_Grid_ge_LtE : FRm l.prog w K mg base cl 1 0 .LtE m_Grid_ge := ⟨⟨_, a11, i11, A_Grid_ge⟩, subint_Grid⟩
  have CM_Grid_ge_GtE : FCm l.prog w K mg base cl 1 0 1 .GtE m_Grid_ge := ⟨⟨_, a11, i11, A_Grid_ge⟩, fun t ht => by rcases ht with rfl | rfl | rfl | rfl | rfl | rfl <;> exact notFirst_of (by assumption), fun c' hc => match c', hc with | 0, _ => notFirst_self | q + 1, h => absurd h (by omega)⟩
  have A_Grid_gt := fa_Grid_gt (P := l.prog) (w := w) (base := base) (cl := cl) F12 B L_Grid S_Grid_is_same
  have CM_Grid_gt_Gt : FCm l.prog w K mg base cl 2 0 1 .Gt m_Grid_gt := ⟨⟨_, a12, i12, A_Grid_gt⟩, fun t ht => by rcases ht with rfl | rfl | rfl | rfl | rfl | rfl <;> exact notFirst_of (by assumption), fun c' hc => match c', hc with | 0, _ => notFirst_self | q + 1, h => absurd h (by omega)⟩
  have RM_Grid_gt_Lt : FRm l.prog w K mg base cl 2 0 .Lt m_Grid_gt := ⟨⟨_, a12, i12, A_Grid_gt⟩, subint_Grid⟩
  have A_Grid_lt := fa_Grid_lt (P := l.prog) (w := w) (base := base) (cl := cl) F13 B S_Grid_is_finer S_Grid_is_same
  have RM_Grid_lt_Gt : FRm l.prog w K mg base cl 3 0 .Gt m_Grid_lt := ⟨⟨_, a13, i13, A_Grid_lt⟩, subint_Grid⟩
  have CM_Grid_lt_Lt : FCm l.prog w K mg base cl 3 0 1 .Lt m_Grid_lt := ⟨⟨_, a13, i13, A_Grid_lt⟩, fun t ht => by rcases ht with rfl | rfl | rfl | rfl | rfl | rfl <;> exact notFirst_of (by assumption), fun c' hc => match c', hc with | 0, _ => notFirst_self | q + 1, h => absurd h (by omega)⟩
  have KO_XGrid_or : FOX l.prog w K mg base cl 3 0 .BitOr m_XGrid_or := ⟨sf_Grid, _, a14, i14, fx_XGrid_or_0 (P := l.prog) (w := w) (base := base) (cl := cl) F14 B S_divisor L_Grid ER_NoGrid S_Grid_init⟩
  have S_law_joined := fs_law_joined (P := l.prog) (w := w) (base := base) (cl := cl) F15 (PySem.W.mg_of X G a15) B XM_law_joined_0 EC_NoGrid KO_XGrid_or L_Grid XB_ValueError BN_ValueError XB_LookupError BN_LookupError XF_common
  have S_law_same := fs_law_same (P := l.prog) (w := w) (base := base) (cl := cl) F16 (PySem.W.mg_of X G a16) B
  have S_law_hand_right := fs_law_hand_right (P := l.prog) (w := w) (base := base) (cl := cl) F17 (PySem.W.mg_of X G a17) B S_Grid_init DI_Grid_init L_Grid O_Grid_and O_Grid_or CM_Grid_eq_Eq RM_Grid_eq_Eq CM_Grid_le_LtE RM_Grid_ge_LtE CM_Grid_gt_Gt RM_Grid_lt_Gt CM_Grid_lt_Lt RM_Grid_gt_Lt S_law_joined S_law_same
  have S_law_take := fs_law_take (P := l.prog) (w := w) (base := base) (cl := cl) F18 (PySem.W.mg_of X G a18) B
  have S_law_of := fs_law_of (P := l.prog) (w := w) (base := base) (cl := cl) F19 (PySem.W.mg_of X G a19) B S_law_take
  have S_law_is_finer := fs_law_is_finer (P := l.prog) (w := w) (base := base) (cl := cl) F20 (PySem.W.mg_of X G a20) B
  have S_law_begins := fs_law_begins (P := l.prog) (w := w) (base := base) (cl := cl) F21 (PySem.W.mg_of X G a21) B
  have S_law_narrow := fs_law_narrow (P := l.prog) (w := w) (base := base) (cl := cl) F22 (PySem.W.mg_of X G a22) B S_law_begins
  have S_law_wide := fs_law_wide (P := l.prog) (w := w) (base := base) (cl := cl) F23 (PySem.W.mg_of X G a23) B S_law_begins
  have S_law_pair_right := fs_law_pair_right (P := l.prog) (w := w) (base := base) (cl := cl) F24 (PySem.W.mg_of X G a24) B S_Grid_init S_law_is_finer CM_Grid_eq_Eq RM_Grid_eq_Eq CM_Grid_gt_Gt RM_Grid_lt_Gt CM_Grid_ge_GtE RM_Grid_le_GtE CM_Grid_lt_Lt RM_Grid_gt_Lt CM_Grid_le_LtE RM_Grid_ge_LtE S_law_same O_Grid_and ON_Grid_and S_law_narrow L_Grid S_law_wide S_law_joined
  have S_law_right := fs_law_right (P := l.prog) (w := w) (base := base) (cl := cl) F25 (PySem.W.mg_of X G a25) B S_law_hand_right S_law_take S_law_of S_law_pair_right
  have S_law_box := fs_law_box (P := l.prog) (w := w) (base := base) (cl := cl) F26 (PySem.W.mg_of X G a26) B
  exact law_end (ok_law F27 B S_law_cells S_law_right S_law_box) law_true
end NS
open PySem PySem.W PyProof.Rows
set_option maxRecDepth 100000 in
set_option maxHeartbeats 0 in
theorem PySem.Challenge.cw_nearsame_k49_finer_and_common_grids_holds : PySem.Challenge.rw_nearsame_k49_finer_and_common_grids.Holds := by
  w_on; o_law; k_head; (case hw => w_witness2)
  k_fill
  refine DL.walk (l := PySem.Challenge.rw_nearsame_k49_finer_and_common_grids) (k := 9) (by decide) rfl rfl (fun w h Y => PySem.W.kIn_of Y) ?F
  case F =>
    intro w mg fa h KX G hmg
    refine' NS.all_mk KX G hmg ?aC_Grid ?pg_Grid ?ic_Grid ?po_Grid ?sa_Grid ?ca_Grid ?cn_Grid ?ct_Grid ?cm_Grid ?mk_Grid ?kp_Grid ?sf_Grid ?rd_Grid ?ga_Grid ?ty_Grid ?subbool_Grid ?subint_Grid ?substr_Grid ?subtuple_Grid ?sublist_Grid ?busNoneType_Grid ?busbool_Grid ?busint_Grid ?busstr_Grid ?bustuple_Grid ?buslist_Grid ?sa0_Grid ?sg0_Grid ?st0_Grid ?sy0_Grid ?sx0_Grid ?sa1_Grid ?sg1_Grid ?st1_Grid ?sy1_Grid ?sx1_Grid ?own_Grid_Grid ?a1 ?l1 ?c1 ?k1 ?a2 ?l2 ?lT2 ?c2 ?k2 ?i2 ?a3 ?l3 ?c3 ?k3 ?a4 ?l4 ?c4 ?k4 ?i4 ?a5 ?l5 ?c5 ?k5 ?i5 ?a6 ?l6 ?c6 ?k6 ?i6 ?a7 ?l7 ?c7 ?k7 ?i7 ?a8 ?l8 ?c8 ?k8 ?i8 ?a9 ?l9 ?c9 ?k9 ?i9 ?a10 ?l10 ?c10 ?k10 ?i10 ?a11 ?l11 ?c11 ?k11 ?i11 ?a12 ?l12 ?c12 ?k12 ?i12 ?a13 ?l13 ?c13 ?k13 ?i13 ?a14 ?l14 ?c14 ?k14 ?i14 ?a15 ?l15 ?c15 ?k15 ?a16 ?l16 ?c16 ?k16 ?a17 ?l17 ?c17 ?k17 ?a18 ?l18 ?c18 ?k18 ?a19 ?l19 ?c19 ?k19 ?a20 ?l20 ?c20 ?k20 ?a21 ?l21 ?c21 ?k21 ?a22 ?l22 ?c22 ?k22 ?a23 ?l23 ?c23 ?k23 ?a24 ?l24 ?c24 ?k24 ?a25 ?l25 ?c25 ?k25 ?a26 ?l26 ?c26 ?k26 ?a27 ?l27 ?c27 ?k27 ?zb_ValueError ?zb_LookupError ?rc_Grid_BitAnd ?io_BitAnd ?ir_BitAnd ?aC_NoGrid ?be_NoGrid ?ic_NoGrid ?ty_NoGrid ?eg_NoGrid ?ek_NoGrid ?ed_NoGrid ?ca_NoGrid ?cn_NoGrid ?ct_NoGrid ?cm_NoGrid ?own_NoGrid_NoGrid ?sbValueError_NoGrid ?sbLookupError_NoGrid ?nf_NoGrid_common ?lk_NoGrid ?sa_NoGrid ?kp_NoGrid ?in_NoGrid ?tI_NoGrid ?hH_NoGrid ?hB_NoGrid ?no0_NoGrid ?lf_NoGrid ?cf_NoGrid ?lc_NoGrid ?mu_vs_NoGrid ?mu_fi_NoGrid ?lx_NoGrid ?kf_NoGrid ?mu_top ?z_super ?ho_any ?z0 ?z1 ?z2 ?z3 ?z4 ?z5 ?z6 ?z7 ?z8 ?z9 ?z10 ?z11 ?z12 ?z13 ?z14
    case aC_Grid => k_is
    case pg_Grid => k_is
    case ic_Grid => k_is
    case po_Grid => k_is
    case sa_Grid => k_is
    case ca_Grid => k_is
    case cn_Grid => k_is
    case ct_Grid => k_is
    case cm_Grid => k_is
    case mk_Grid => k_is
    case kp_Grid => k_is
    case sf_Grid => k_is
    case rd_Grid => k_is
    case ga_Grid => k_is
    case ty_Grid => k_is
    case subbool_Grid => k_is
    case subint_Grid => k_is
    case substr_Grid => k_is
    case subtuple_Grid => k_is
    case sublist_Grid => k_is
    case busNoneType_Grid => k_is
    case busbool_Grid => k_is
    case busint_Grid => k_is
    case busstr_Grid => k_is
    case bustuple_Grid => k_is
    case buslist_Grid => k_is
    case sa0_Grid => k_is
    case sg0_Grid => k_is
    case st0_Grid => k_is
    case sy0_Grid => k_is
    case sx0_Grid => k_is
    case sa1_Grid => k_is
    case sg1_Grid => k_is
    case st1_Grid => k_is
    case sy1_Grid => k_is
    case sx1_Grid => k_is
    case own_Grid_Grid => k_is
    case a1 => k_is
    case l1 => k_is
    case c1 => k_is
    case k1 => k_is
    case a2 => k_is
    case l2 => k_is
    case lT2 => k_is
    case c2 => k_is
    case k2 => k_is
    case i2 => k_is
    case a3 => k_is
    case l3 => k_is
    case c3 => k_is
    case k3 => k_is
    case a4 => k_is
    case l4 => k_is
    case c4 => k_is
    case k4 => k_is
    case i4 => k_is
    case a5 => k_is
    case l5 => k_is
    case c5 => k_is
    case k5 => k_is
    case i5 => k_is
    case a6 => k_is
    case l6 => k_is
    case c6 => k_is
    case k6 => k_is
    case i6 => k_is
    case a7 => k_is
    case l7 => k_is
    case c7 => k_is
    case k7 => k_is
    case i7 => k_is
    case a8 => k_is
    case l8 => k_is
    case c8 => k_is
    case k8 => k_is
    case i8 => k_is
    case a9 => k_is
    case l9 => k_is
    case c9 => k_is
    case k9 => k_is
    case i9 => k_is
    case a10 => k_is
    case l10 => k_is
    case c10 => k_is
    case k10 => k_is
    case i10 => k_is
    case a11 => k_is
    case l11 => k_is
    case c11 => k_is
    case k11 => k_is
    case i11 => k_is
    case a12 => k_is
    case l12 => k_is
    case c12 => k_is
    case k12 => k_is
    case i12 => k_is
    case a13 => k_is
    case l13 => k_is
    case c13 => k_is
    case k13 => k_is
    case i13 => k_is
    case a14 => k_is
    case l14 => k_is
    case c14 => k_is
    case k14 => k_is
    case i14 => k_is
    case a15 => k_is
    case l15 => k_is
    case c15 => k_is
    case k15 => k_is
    case a16 => k_is
    case l16 => k_is
    case c16 => k_is
    case k16 => k_is
    case a17 => k_is
    case l17 => k_is
    case c17 => k_is
    case k17 => k_is
    case a18 => k_is
    case l18 => k_is
    case c18 => k_is
    case k18 => k_is
    case a19 => k_is
    case l19 => k_is
    case c19 => k_is
    case k19 => k_is
    case a20 => k_is
    case l20 => k_is
    case c20 => k_is
    case k20 => k_is
    case a21 => k_is
    case l21 => k_is
    case c21 => k_is
    case k21 => k_is
    case a22 => k_is
    case l22 => k_is
    case c22 => k_is
    case k22 => k_is
    case a23 => k_is
    case l23 => k_is
    case c23 => k_is
    case k23 => k_is
    case a24 => k_is
    case l24 => k_is
    case c24 => k_is
    case k24 => k_is
    case a25 => k_is
    case l25 => k_is
    case c25 => k_is
    case k25 => k_is
    case a26 => k_is
    case l26 => k_is
    case c26 => k_is
    case k26 => k_is
    case a27 => k_is
    case l27 => k_is
    case c27 => k_is
    case k27 => k_is
    case zb_ValueError => k_is
    case zb_LookupError => k_is
    case rc_Grid_BitAnd => k_is
    case io_BitAnd => k_is
    case ir_BitAnd => k_is
    case aC_NoGrid => k_is
    case be_NoGrid => k_is
    case ic_NoGrid => k_is
    case ty_NoGrid => k_is
    case eg_NoGrid => k_is
    case ek_NoGrid => k_is
    case ed_NoGrid => k_is
    case ca_NoGrid => k_is
    case cn_NoGrid => k_is
    case ct_NoGrid => k_is
    case cm_NoGrid => k_is
    case own_NoGrid_NoGrid => k_is
    case sbValueError_NoGrid => k_is
    case sbLookupError_NoGrid => k_is
    case nf_NoGrid_common => k_is
    case lk_NoGrid => k_is
    case sa_NoGrid => k_is
    case kp_NoGrid => k_is
    case in_NoGrid => k_is
    case tI_NoGrid => k_is
    case hH_NoGrid => k_is
    case hB_NoGrid => k_is
    case no0_NoGrid => k_is
    case lf_NoGrid => k_is
    case cf_NoGrid => k_is
    case lc_NoGrid => k_is
    case mu_vs_NoGrid => exact rfl
    case mu_fi_NoGrid => first | exact rfl | kernel_rfl
    case lx_NoGrid => k_is
    case kf_NoGrid => k_is
    case mu_top => first | exact rfl | kernel_rfl
    case z_super => k_is
    case ho_any => k_is
    case z0 => k_is
    case z1 => k_is
    case z2 => k_is
    case z3 => k_is
    case z4 => k_is
    case z5 => k_is
    case z6 => k_is
    case z7 => k_is
    case z8 => k_is
    case z9 => k_is
    case z10 => k_is
    case z11 => k_is
    case z12 => k_is
    case z13 => k_is
    case z14 => k_is
