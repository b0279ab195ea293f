import PyProof.Rows.All
import Wide.All
import OpenK.AllK
import Wide.FinOn
import KE.KStateDown
import HandS.ForMost
import HandS.Defaults
import HandS.Evl
import HandS.Walk
import HandS.TupAny
import HandS.Wide
import HandS.Star
import HandS.Zip
import HandS.RaiseMore
import HandS.Style
import HandS.Deep
import HandS.IsInst
import HandS.Conv
import HandS.Flt
import PyProof.Rows.RuleB_pow
import KE.DataCmp
import KE.DataMinMax
import KE.SortData
import PyProof.ReprRoads
import KE.GoesEnum
import HandS.HeadEnd
import HandS.Codes
import PySem.Challenge.RW_holesheldopen_k61_whole_arrivals_far_apa
import HandS.Head0
import HandS.Head1
import HandS.Head2
import HandS.HeadHook1
import HandS.HeadHook2
import PyProof.ReprBulk
import PyProof.FitsInt
set_option Elab.async false
set_option linter.all false
set_option maxRecDepth 100000
set_option maxHeartbeats 2000000
set_option autoImplicit false
namespace DL
open PySem PySem.Spec PyProof.Rows L2
abbrev D := PyData
abbrev St := L2.St
abbrev Fr_ := PySem.W.Frag

/-! ### data in the abstract heap -/
/-- a list that stands still: locked, or of the written part -/
def Fz (K : Fr_) (H : Hp) (a : Addr) (xs : List V) : Prop := (∃ o, H a = some (.frz o (.lst xs))) ∨ SqL K (fun _ => none) a xs
theorem Fz.sq {K : Fr_} {H : Hp} {a : Addr} {xs : List V} (h : Fz K H a xs) : SqL K H a xs := by
  rcases h with ⟨o, h⟩ | (h | h)
  · exact .inl (.inr ⟨o, h⟩)
  · rcases h with h | ⟨_, h⟩ <;> cases h
  · exact .inr h
mutual
inductive Rp (K : Fr_) (H : Hp) : V → D → Prop
  | non : Rp K H .non .none
  | bl (b : Bool) : Rp K H (.bl b) (.bool b)
  | int (i : Int) : Rp K H (.int i) (.int i)
  | str (x : Str) : Rp K H (.str x) (.str x)
  | lst {a : Addr} {xs : List V} {ds : List D} : Fz K H a xs → RpA K H xs ds → Rp K H (.ref a) (.list ds)
  | tup {a : Addr} {xs : List V} {ds : List D} : SqT K H a xs → RpA K H xs ds → Rp K H (.ref a) (.tuple ds)
inductive RpA (K : Fr_) (H : Hp) : List V → List D → Prop
  | nil : RpA K H [] []
  | cons {v : V} {vs : List V} {d : D} {ds : List D} : Rp K H v d → RpA K H vs ds → RpA K H (v :: vs) (d :: ds)
end
/-- what stands still stays -/
structure Mono (H H' : Hp) : Prop where
  tup : ∀ b xs, H b = some (.tup xs) → H' b = some (.tup xs)
  frz : ∀ b o u, H b = some (.frz o u) → H' b = some (.frz o u)
theorem Mono.refl (H : Hp) : Mono H H := ⟨fun _ _ h => h, fun _ _ _ h => h⟩
theorem Mono.trans {H H1 H2 : Hp} (a : Mono H H1) (b : Mono H1 H2) : Mono H H2 := ⟨fun c xs h => b.tup c xs (a.tup c xs h), fun c o u h => b.frz c o u (a.frz c o u h)⟩
theorem Mono.of_same {H H' : Hp} (s : Same H H') : Mono H H' := ⟨fun b xs h => s b _ h, fun b o u h => s b _ h⟩
theorem Mono.sqT {K : Fr_} {H H' : Hp} (m : Mono H H') {a : Addr} {xs : List V} (h : SqT K H a xs) : SqT K H' a xs := by
  rcases h with (h | ⟨o, h⟩) | h
  · exact .inl (.inl (m.tup _ _ h))
  · exact .inl (.inr ⟨o, m.frz _ _ _ h⟩)
  · exact .inr h
theorem Mono.fz {K : Fr_} {H H' : Hp} (m : Mono H H') {a : Addr} {xs : List V} (h : Fz K H a xs) : Fz K H' a xs := by
  rcases h with ⟨o, h⟩ | h
  · exact .inl ⟨o, m.frz _ _ _ h⟩
  · exact .inr h
mutual
theorem Rp.mono {K : Fr_} {H H' : Hp} (m : Mono H H') : ∀ {v : V} {d : D}, Rp K H v d → Rp K H' v d
  | _, _, .non => .non
  | _, _, .bl b => .bl b
  | _, _, .int i => .int i
  | _, _, .str x => .str x
  | _, _, .lst h r => .lst (m.fz h) (RpA.mono m r)
  | _, _, .tup h r => .tup (m.sqT h) (RpA.mono m r)
theorem RpA.mono {K : Fr_} {H H' : Hp} (m : Mono H H') : ∀ {vs : List V} {ds : List D}, RpA K H vs ds → RpA K H' vs ds
  | _, _, .nil => .nil
  | _, _, .cons h r => .cons (Rp.mono m h) (RpA.mono m r)
end
mutual
theorem Rp.dp {K : Fr_} {H : Hp} : ∀ {v : V} {d : D}, Rp K H v d → Dp K H v d
  | _, _, .non => .non
  | _, _, .bl b => .bl b
  | _, _, .int i => .int i
  | _, _, .str x => .str x
  | _, _, .lst h r => .lst h.sq (RpA.dp r)
  | _, _, .tup h r => .tup h (RpA.dp r)
theorem RpA.dp {K : Fr_} {H : Hp} : ∀ {vs : List V} {ds : List D}, RpA K H vs ds → DpAll K H vs ds
  | _, _, .nil => .nil
  | _, _, .cons h r => .cons (Rp.dp h) (RpA.dp r)
end
theorem RpA.length {K : Fr_} {H : Hp} : ∀ {vs : List V} {ds : List D}, RpA K H vs ds → vs.length = ds.length
  | _, _, .nil => rfl
  | _, _, .cons _ r => congrArg (· + 1) (RpA.length r)
theorem RpA.get {K : Fr_} {H : Hp} : ∀ {vs : List V} {ds : List D} {i : Nat} {d : D}, RpA K H vs ds → ds[i]? = some d → ∃ v, vs[i]? = some v ∧ Rp K H v d
  | _, _, _, _, .nil, e => by simp at e
  | _, _, 0, _, .cons h _, e => by
    simp at e
    subst e
    exact ⟨_, rfl, h⟩
  | _, _, i + 1, _, .cons _ r, e => by
    obtain ⟨v, h1, h2⟩ := RpA.get (i := i) r (by simpa using e)
    exact ⟨v, by simpa using h1, h2⟩
theorem RpA.get' {K : Fr_} {H : Hp} : ∀ {vs : List V} {ds : List D} {i : Nat} {v : V}, RpA K H vs ds → vs[i]? = some v → ∃ d, ds[i]? = some d ∧ Rp K H v d
  | _, _, _, _, .nil, e => by simp at e
  | _, _, 0, _, .cons h _, e => by
    simp at e
    subst e
    exact ⟨_, rfl, h⟩
  | _, _, i + 1, _, .cons _ r, e => by
    obtain ⟨v, h1, h2⟩ := RpA.get' (i := i) r (by simpa using e)
    exact ⟨v, by simpa using h1, h2⟩
theorem RpA.append {K : Fr_} {H : Hp} : ∀ {vs us : List V} {ds es : List D}, RpA K H vs ds → RpA K H us es → RpA K H (vs ++ us) (ds ++ es)
  | _, _, _, _, .nil, s => s
  | _, _, _, _, .cons h r, s => .cons h (RpA.append r s)
theorem RpA.take {K : Fr_} {H : Hp} : ∀ {vs : List V} {ds : List D} (n : Nat), RpA K H vs ds → RpA K H (vs.take n) (ds.take n)
  | _, _, 0, _ => .nil
  | _, _, _ + 1, .nil => .nil
  | _, _, n + 1, .cons h r => .cons h (RpA.take n r)
theorem RpA.drop {K : Fr_} {H : Hp} : ∀ {vs : List V} {ds : List D} (n : Nat), RpA K H vs ds → RpA K H (vs.drop n) (ds.drop n)
  | _, _, 0, r => r
  | _, _, _ + 1, .nil => .nil
  | _, _, n + 1, .cons h r => RpA.drop n r
theorem RpA.set {K : Fr_} {H : Hp} {v : V} {d : D} (h : Rp K H v d) : ∀ {vs : List V} {ds : List D} (i : Nat), RpA K H vs ds → RpA K H (vs.set i v) (ds.set i d)
  | _, _, _, .nil => .nil
  | _, _, 0, .cons _ r => .cons h r
  | _, _, i + 1, .cons q r => .cons q (RpA.set h i r)
theorem RpA.snoc {K : Fr_} {H : Hp} {vs : List V} {ds : List D} {v : V} {d : D} (r : RpA K H vs ds) (h : Rp K H v d) : RpA K H (vs ++ [v]) (ds ++ [d]) := r.append (.cons h .nil)

/-! ### the slots of a frame -/
/-- what is known of a slot: nothing; a value that stands still; a list that the slot alone holds -/
inductive Cell where
  | any
  | imm (d : D)
  | own (ds : List D)
def Cell.isOwn : Cell → Bool
  | .own _ => true
  | _ => false
abbrev Env_ := List Cell
/-- the def's context: the heap at its entry, the lists handed in that it may change, by slot -/
structure FC where
  H0 : Hp
  M : List (Nat × Addr)
def CellOk (K : Fr_) (H : Hp) (o : Option (Option V)) : Cell → Prop
  | .any => True
  | .imm d => ∃ v, o = some (some v) ∧ Rp K H v d
  | .own ds => ∃ a xs, o = some (some (.ref a)) ∧ H a = some (.lst xs) ∧ RpA K H xs ds
def Owns (Γ : Env_) (σ : St) (a : Addr) : Prop := ∃ (i : Nat) (c : Cell), Γ[i]? = some c ∧ c.isOwn = true ∧ σ[i]? = some (some (.ref a))
structure EnvOk (K : Fr_) (c : FC) (σ : St) (H : Hp) (Γ : Env_) : Prop where
  cells : ∀ (i : Nat) (k : Cell), Γ[i]? = some k → CellOk K H (σ[i]?) k
  apart : ∀ (i j : Nat) (k l : Cell) (a : Addr), i ≠ j → Γ[i]? = some k → k.isOwn = true → Γ[j]? = some l → l.isOwn = true → σ[i]? = some (some (.ref a)) → σ[j]? = some (some (.ref a)) → False
  pres : ∀ b o, c.H0 b = some o → (∀ p ∈ c.M, p.2 ≠ b) → H b = some o
  new : ∀ a, Owns Γ σ a → (∃ p ∈ c.M, p.2 = a) ∨ c.H0 a = none
  pins : ∀ p ∈ c.M, σ[p.1]? = some (some (.ref p.2)) ∧ ∃ k : Cell, Γ[p.1]? = some k ∧ k.isOwn = true
  len : σ.length = Γ.length
theorem CellOk.same {K : Fr_} {H H' : Hp} {o : Option (Option V)} (s : Same H H') : ∀ {k : Cell}, CellOk K H o k → CellOk K H' o k
  | .any, _ => trivial
  | .imm d, ⟨v, e, r⟩ => ⟨v, e, r.mono (.of_same s)⟩
  | .own ds, ⟨a, xs, e, h, r⟩ => ⟨a, xs, e, s _ _ h, r.mono (.of_same s)⟩
theorem EnvOk.same {K : Fr_} {c : FC} {σ : St} {H H' : Hp} {Γ : Env_} (E : EnvOk K c σ H Γ) (s : Same H H') : EnvOk K c σ H' Γ :=
  ⟨fun i k h => (E.cells i k h).same s, E.apart, fun b o h hm => s _ _ (E.pres b o h hm), E.new, E.pins, E.len⟩
/-- what no slot holds stays -/
def Kept (Γ : Env_) (σ : St) (H H' : Hp) : Prop := ∀ b o, H b = some o → ¬ Owns Γ σ b → H' b = some o
theorem Kept.of_same {Γ : Env_} {σ : St} {H H' : Hp} (s : Same H H') : Kept Γ σ H H' := fun b o h _ => s b o h
theorem EnvOk.owned {K : Fr_} {c : FC} {σ : St} {H : Hp} {Γ : Env_} (E : EnvOk K c σ H Γ) {a : Addr} (h : Owns Γ σ a) : ∃ xs, H a = some (.lst xs) := by
  obtain ⟨i, k, h1, h2, h3⟩ := h
  have q := E.cells i k h1
  cases k with
  | any => cases h2
  | imm d => cases h2
  | own ds =>
    obtain ⟨b, xs, e, hb, _⟩ := q
    rw [h3] at e
    cases e
    exact ⟨xs, hb⟩
theorem Kept.mono {K : Fr_} {c : FC} {σ : St} {H H' : Hp} {Γ : Env_} (E : EnvOk K c σ H Γ) (k : Kept Γ σ H H') : Mono H H' := by
  refine ⟨fun b xs h => k b _ h fun o => ?_, fun b o u h => k b _ h fun q => ?_⟩
  · obtain ⟨ys, e⟩ := E.owned o
    rw [h] at e
    cases e
  · obtain ⟨ys, e⟩ := E.owned q
    rw [h] at e
    cases e
theorem Same.new {H : Hp} {p : Addr} {o : HO} (h : H p = none) : Same H (upd H p o) := fun b u e => by
  rw [upd_ne (ne_of_none e h)]
  exact e
/-- a value goes into a slot -/
theorem EnvOk.setImm {K : Fr_} {c : FC} {σ : St} {H : Hp} {Γ : Env_} (E : EnvOk K c σ H Γ) {i : Nat} {v : V} {d : D} (r : Rp K H v d) (hm : ∀ p ∈ c.M, p.1 ≠ i) : EnvOk K c (σ.set i (some v)) H (Γ.set i (.imm d)) := by
  have own_of : ∀ {j : Nat} {k : Cell}, (Γ.set i (.imm d))[j]? = some k → k.isOwn = true → j ≠ i ∧ Γ[j]? = some k := fun {j k} h ho => by
    by_cases e : i = j
    · subst e
      rw [List.getElem?_set] at h
      simp at h
      obtain ⟨_, h⟩ := h
      subst h
      cases ho
    · rw [List.getElem?_set_ne e] at h
      exact ⟨fun q => e q.symm, h⟩
  refine ⟨fun j k h => ?_, fun j l k q a hjl h1 h2 h3 h4 h5 h6 => ?_, E.pres, fun a ⟨j, k, h1, h2, h3⟩ => ?_, fun p hp => ?_, by rw [List.length_set, List.length_set, E.len]⟩
  · by_cases e : i = j
    · subst e
      rw [List.getElem?_set] at h
      simp at h
      obtain ⟨hl, h⟩ := h
      subst h
      refine ⟨v, ?_, r⟩
      rw [List.getElem?_set_self (by rw [E.len]; exact hl)]
    · rw [List.getElem?_set_ne e] at h ⊢
      exact E.cells j k h
  · obtain ⟨n1, g1⟩ := own_of h1 h2
    obtain ⟨n2, g2⟩ := own_of h3 h4
    rw [List.getElem?_set_ne (Ne.symm n1)] at h5
    rw [List.getElem?_set_ne (Ne.symm n2)] at h6
    exact E.apart j l k q a hjl g1 h2 g2 h4 h5 h6
  · obtain ⟨n1, g1⟩ := own_of h1 h2
    rw [List.getElem?_set_ne (Ne.symm n1)] at h3
    exact E.new a ⟨j, k, g1, h2, h3⟩
  · obtain ⟨h1, k, h2, h3⟩ := E.pins p hp
    have n := hm p hp
    rw [List.getElem?_set_ne (Ne.symm n), List.getElem?_set_ne (Ne.symm n)]
    exact ⟨h1, k, h2, h3⟩
/-- a new list goes into a slot: H, the heap ahead, does not know it -/
theorem EnvOk.setOwn {K : Fr_} {c : FC} {σ : St} {H : Hp} {Γ : Env_} (E : EnvOk K c σ H Γ) {i : Nat} {a : Addr} {xs : List V} {ds : List D} (ha : H a = some (.lst xs)) (r : RpA K H xs ds) (hn : ¬ Owns Γ σ a) (h0 : c.H0 a = none) (hm : ∀ p ∈ c.M, p.1 ≠ i) :
    EnvOk K c (σ.set i (some (.ref a))) H (Γ.set i (.own ds)) := by
  have own_of : ∀ {j : Nat} {k : Cell}, (Γ.set i (.own ds))[j]? = some k → k.isOwn = true → j ≠ i → Γ[j]? = some k := fun {j k} h ho e => by
    rw [List.getElem?_set_ne (Ne.symm e)] at h
    exact h
  have at_i : ∀ {j : Nat} {b : Addr}, j = i → (σ.set i (some (.ref a)))[j]? = some (some (.ref b)) → b = a := fun {j b} e h => by
    subst e
    rw [List.getElem?_set] at h
    simp at h
    exact h.2.symm
  have off_i : ∀ {j : Nat} {b : Addr}, j ≠ i → (σ.set i (some (.ref a)))[j]? = some (some (.ref b)) → σ[j]? = some (some (.ref b)) := fun {j b} e h => by
    rw [List.getElem?_set_ne (Ne.symm e)] at h
    exact h
  refine ⟨fun j k h => ?_, fun j l k q b hjl h1 h2 h3 h4 h5 h6 => ?_, E.pres, fun b ⟨j, k, h1, h2, h3⟩ => ?_, fun p hp => ?_, by rw [List.length_set, List.length_set, E.len]⟩
  · by_cases e : i = j
    · subst e
      rw [List.getElem?_set] at h
      simp at h
      obtain ⟨hl, h⟩ := h
      subst h
      refine ⟨a, xs, ?_, ha, r⟩
      rw [List.getElem?_set_self (by rw [E.len]; exact hl)]
    · rw [List.getElem?_set_ne e] at h ⊢
      exact E.cells j k h
  · by_cases ej : j = i
    · have e1 := at_i ej h5
      have el : l ≠ i := fun z => hjl (ej.trans z.symm)
      rw [e1] at h6
      exact hn ⟨l, q, own_of h3 h4 el, h4, off_i el h6⟩
    · by_cases el : l = i
      · have e1 := at_i el h6
        rw [e1] at h5
        exact hn ⟨j, k, own_of h1 h2 ej, h2, off_i ej h5⟩
      · exact E.apart j l k q b hjl (own_of h1 h2 ej) h2 (own_of h3 h4 el) h4 (off_i ej h5) (off_i el h6)
  · by_cases ej : j = i
    · rw [at_i ej h3]
      exact .inr h0
    · exact E.new b ⟨j, k, own_of h1 h2 ej, h2, off_i ej h3⟩
  · obtain ⟨h1, k, h2, h3⟩ := E.pins p hp
    have n := hm p hp
    rw [List.getElem?_set_ne (Ne.symm n), List.getElem?_set_ne (Ne.symm n)]
    exact ⟨h1, k, h2, h3⟩
theorem EnvOk.ownAt {K : Fr_} {c : FC} {σ : St} {H : Hp} {Γ : Env_} (E : EnvOk K c σ H Γ) {i : Nat} {ds : List D} (h : Γ[i]? = some (.own ds)) : ∃ a xs, σ[i]? = some (some (.ref a)) ∧ H a = some (.lst xs) ∧ RpA K H xs ds := E.cells i _ h
/-- the list that slot i alone holds is changed (other heap cells of the entry stay) -/
theorem EnvOk.write {K : Fr_} {c : FC} {σ : St} {H H' : Hp} {Γ : Env_} (E : EnvOk K c σ H Γ) {i : Nat} {ds es : List D} {a : Addr} {ys : List V} (h : Γ[i]? = some (.own ds)) (ha : σ[i]? = some (some (.ref a)))
    (k : ∀ b o, H b = some o → b ≠ a → H' b = some o) (ha' : H' a = some (.lst ys)) (r : RpA K H' ys es) : EnvOk K c σ H' (Γ.set i (.own es)) := by
  obtain ⟨a', xs, e1, hl, _⟩ := E.ownAt h
  rw [ha] at e1
  cases e1
  have hil : i < Γ.length := (List.getElem?_eq_some_iff.mp h).1
  have back : ∀ {j : Nat} {q : Cell}, (Γ.set i (.own es))[j]? = some q → q.isOwn = true → ∃ q' : Cell, Γ[j]? = some q' ∧ q'.isOwn = true := fun {j q} h1 h2 => by
    by_cases e : i = j
    · subst e
      exact ⟨_, h, rfl⟩
    · rw [List.getElem?_set_ne e] at h1
      exact ⟨q, h1, h2⟩
  have mono : Mono H H' := ⟨fun b zs hb => k b _ hb fun z => (by rw [z, hl] at hb; cases hb), fun b o u hb => k b _ hb fun z => (by rw [z, hl] at hb; cases hb)⟩
  refine ⟨fun j q hq => ?_, fun j l q q' b hjl h1 h2 h3 h4 h5 h6 => ?_, fun b o hb hm => k b o (E.pres b o hb hm) fun z => ?_, fun b ⟨j, q, h1, h2, h3⟩ => ?_, fun p hp => ?_, by rw [List.length_set, E.len]⟩
  · by_cases e : i = j
    · subst e
      rw [List.getElem?_set_self hil] at hq
      cases hq
      exact ⟨a, ys, ha, ha', r⟩
    · rw [List.getElem?_set_ne e] at hq
      have z := E.cells j q hq
      cases q with
      | any => trivial
      | imm d =>
        obtain ⟨v, e1, r1⟩ := z
        exact ⟨v, e1, r1.mono mono⟩
      | own fs =>
        obtain ⟨b, zs, e1, hb, r1⟩ := z
        refine ⟨b, zs, e1, k b _ hb fun z => ?_, r1.mono mono⟩
        subst z
        exact E.apart i j _ _ b e h rfl hq rfl ha e1
  · obtain ⟨q1, g1, g2⟩ := back h1 h2
    obtain ⟨q2, g3, g4⟩ := back h3 h4
    exact E.apart j l q1 q2 b hjl g1 g2 g3 g4 h5 h6
  · rcases E.new a ⟨i, _, h, rfl, ha⟩ with ⟨p, hp, e⟩ | e
    · exact hm p hp (e.trans z.symm)
    · rw [z, e] at hb
      cases hb
  · obtain ⟨q1, g1, g2⟩ := back h1 h2
    exact E.new b ⟨j, q1, g1, g2, h3⟩
  · obtain ⟨h1, q, h2, h3⟩ := E.pins p hp
    refine ⟨h1, ?_⟩
    by_cases e : i = p.1
    · subst e
      exact ⟨_, List.getElem?_set_self hil, rfl⟩
    · rw [List.getElem?_set_ne e]
      exact ⟨q, h2, h3⟩
/-- less is known -/
def EnvLe : Env_ → Env_ → Prop
  | [], [] => True
  | c :: r, c' :: r' => (c' = c ∨ c' = .any) ∧ EnvLe r r'
  | _, _ => False
theorem EnvLe.at_ : ∀ {Γ Γ' : Env_}, EnvLe Γ Γ' → Γ.length = Γ'.length ∧ ∀ (i : Nat) (k : Cell), Γ'[i]? = some k → k = .any ∨ Γ[i]? = some k
  | [], [], _ => ⟨rfl, fun i k h => by simp at h⟩
  | c :: r, c' :: r', ⟨h1, h2⟩ => by
    obtain ⟨l, z⟩ := EnvLe.at_ h2
    refine ⟨by simp [l], fun i k h => ?_⟩
    cases i with
    | zero =>
      simp at h
      subst h
      rcases h1 with h1 | h1
      · exact .inr (by simp [h1])
      · exact .inl h1
    | succ i => simpa using z i k (by simpa using h)
  | [], _ :: _, h => h.elim
  | _ :: _, [], h => h.elim
theorem EnvOk.le {K : Fr_} {c : FC} {σ : St} {H : Hp} {Γ Γ' : Env_} (E : EnvOk K c σ H Γ) (l : EnvLe Γ Γ') (hm : ∀ p ∈ c.M, ∃ k : Cell, Γ'[p.1]? = some k ∧ k.isOwn = true) : EnvOk K c σ H Γ' := by
  obtain ⟨ll, z⟩ := l.at_
  have own_of : ∀ {j : Nat} {k : Cell}, Γ'[j]? = some k → k.isOwn = true → Γ[j]? = some k := fun {j k} h ho => by
    rcases z j k h with e | e
    · subst e
      cases ho
    · exact e
  refine ⟨fun i k h => ?_, fun i j k q a hij h1 h2 h3 h4 h5 h6 => E.apart i j k q a hij (own_of h1 h2) h2 (own_of h3 h4) h4 h5 h6, E.pres, fun a ⟨j, k, h1, h2, h3⟩ => E.new a ⟨j, k, own_of h1 h2, h2, h3⟩, fun p hp => ⟨(E.pins p hp).1, hm p hp⟩, by rw [E.len, ll]⟩
  rcases z i k h with e | e
  · subst e
    trivial
  · exact E.cells i k e
end DL

set_option Elab.async false
set_option linter.all false
set_option maxRecDepth 100000
set_option maxHeartbeats 2000000
set_option autoImplicit false
namespace DL
open PySem PySem.Spec PyProof.Rows L2
/-! ### what a piece of syntax does, by its own meaning -/
section
variable {X : Cx}
def sE (X : Cx) (e : Expr) : TE := fun σ H Q => ∀ (pins : List (Addr × Obj)) (s : Shared), Inv X pins σ H s → wpAny (model X.prog X.w) X.A (eval e X.env) (EP X pins σ Q) X.xe s
theorem pe_s (e : Expr) : PE X e (sE X e) := ⟨fun pins s _ _ _ I h => h pins s I⟩
theorem sE_of {e : Expr} {t : TE} {σ : St} {H : Hp} {Q : VK} (h : PE X e t) (q : t σ H Q) : sE X e σ H Q := fun pins s I => h.run pins s σ H Q I q
theorem EP_mono {pins : List (Addr × Obj)} {σ : St} {Q Q' : VK} {u : Value} {s' : Shared} (h : EP X pins σ Q u s') (k : ∀ v H', Q v H' → Q' v H') : EP X pins σ Q' u s' := by
  obtain ⟨v, H', I, r, q⟩ := h
  exact ⟨v, H', I, r, k v H' q⟩
theorem sE_mono {e : Expr} {σ : St} {H : Hp} {Q Q' : VK} (h : sE X e σ H Q) (k : ∀ v H', Q v H' → Q' v H') : sE X e σ H Q' := fun pins s I => thn (h pins s I) fun _ _ z => EP_mono z k
def sT (X : Cx) (e : Expr) : TT := fun σ H Q => ∀ (pins : List (Addr × Obj)) (s : Shared), Inv X pins σ H s → wpAny (model X.prog X.w) X.A (isTrue e X.env (eval e X.env)) (TP X pins σ Q) X.xe s
theorem pt_s (e : Expr) : PT X e (sT X e) := ⟨fun pins s _ _ _ I h => h pins s I⟩
theorem sT_of {e : Expr} {t : TT} {σ : St} {H : Hp} {Q : Bool → Hp → Prop} (h : PT X e t) (q : t σ H Q) : sT X e σ H Q := fun pins s I => h.run pins s σ H Q I q
def sW (X : Cx) (e : Expr) : TT := fun σ H Q => ∀ (whole : Sem Value) (pins : List (Addr × Obj)) (s : Shared), Inv X pins σ H s → wpAny (model X.prog X.w) X.A (isTrue e X.env whole) (TP X pins σ Q) X.xe s
theorem pw_s (e : Expr) : PW X e (sW X e) := ⟨fun wh pins s _ _ _ I h => h wh pins s I⟩
theorem sW_of {e : Expr} {t : TT} {σ : St} {H : Hp} {Q : Bool → Hp → Prop} (h : PW X e t) (q : t σ H Q) : sW X e σ H Q := fun wh pins s I => h.run wh pins s σ H Q I q
def sS (X : Cx) (st : Stmt) : TS := fun D σ H => ∀ (pins : List (Addr × Obj)) (s : Shared), Inv X pins σ H s → wpAny (model X.prog X.w) X.A (exec st X.env) (SP X pins D) X.xe s
theorem ps_s (st : Stmt) : PS X st (sS X st) := ⟨fun pins s _ _ _ I h => h pins s I⟩
theorem sS_of {st : Stmt} {t : TS} {D : Ends} {σ : St} {H : Hp} (h : PS X st t) (q : t D σ H) : sS X st D σ H := fun pins s I => h.run pins s σ H D I q
def sSs (X : Cx) (st : List Stmt) : TS := fun D σ H => ∀ (pins : List (Addr × Obj)) (s : Shared), Inv X pins σ H s → wpAny (model X.prog X.w) X.A (execs st X.env) (SP X pins D) X.xe s
theorem pss_s (st : List Stmt) : PSs X st (sSs X st) := ⟨fun pins s _ _ _ I h => h pins s I⟩
theorem sSs_of {st : List Stmt} {t : TS} {D : Ends} {σ : St} {H : Hp} (h : PSs X st t) (q : t D σ H) : sSs X st D σ H := fun pins s I => h.run pins s σ H D I q
theorem sSs_cons {st : Stmt} {rest : List Stmt} {t : TS} {D : Ends} {σ : St} {H : Hp} (h : PS X st t) (q : t { D with nx := sSs X rest D } σ H) : sSs X (st :: rest) D σ H := sSs_of (pss_cons h (pss_s rest)) q
/-- an argument list -/
def sEs (X : Cx) : List Expr → TA
  | [] => fun _ H Q => Q [] H
  | e :: r => fun σ H Q => sE X e σ H fun v H1 => sEs X r σ H1 fun vs H2 => Q (v :: vs) H2
def NoStar (X : Cx) : List Expr → Prop
  | [] => True
  | e :: r => starEach (e :: r) X.env = (false, eval e X.env) :: starEach r X.env ∧ NoStar X r
theorem pa_s : ∀ {es : List Expr}, NoStar X es → PA X es (sEs X es)
  | [], _ => pa_nil
  | e :: r, ⟨h1, h2⟩ => pa_cons (pe_s e) (pa_s h2) h1
theorem sEs_mono : ∀ {es : List Expr} {σ : St} {H : Hp} {Q Q' : List V → Hp → Prop}, sEs X es σ H Q → (∀ v H', Q v H' → Q' v H') → sEs X es σ H Q'
  | [], _, _, _, _, h, k => k _ _ h
  | e :: r, _, _, _, _, h, k => sE_mono h fun v H1 h1 => sEs_mono (es := r) h1 fun vs H2 h2 => k _ _ h2
/-- what comes is locked for good -/
def tFrz (t : TE) : TE := fun σ H Q => t σ H fun v H' => ∃ a u, v = .ref a ∧ H' a = some u ∧ Mut (some u) ∧ ∀ o, Q v (upd H' a (.frz o u))
theorem pe_frz {e : Expr} {t : TE} (h : PE X e t) : PE X e (tFrz t) := by
  refine ⟨fun pins s σ H Q I hw => ?_⟩
  refine thn (h.run pins s σ H _ I hw) fun u s1 ⟨v, H1, I1, r, a, w, ev, ha, mu, q⟩ => ?_
  obtain ⟨od, I2⟩ := I1.lock ha mu
  exact ⟨v, _, I2, r, q od⟩
end

/-! ### judgements of expressions -/
/-- a value, maybe a list that a slot holds -/
inductive RpW (K : Fr_) (H : Hp) : V → D → Prop
  | st {v : V} {d : D} (h : Rp K H v d) : RpW K H v d
  | ow {a : Addr} {xs : List V} {ds : List D} (h : H a = some (.lst xs)) (r : RpA K H xs ds) : RpW K H (.ref a) (.list ds)
inductive RpWA (K : Fr_) (H : Hp) : List V → List D → Prop
  | nil : RpWA K H [] []
  | cons {v : V} {vs : List V} {d : D} {ds : List D} : RpW K H v d → RpWA K H vs ds → RpWA K H (v :: vs) (d :: ds)
theorem RpW.same {K : Fr_} {H H' : Hp} (s : Same H H') {v : V} {d : D} (h : RpW K H v d) : RpW K H' v d := by
  cases h with
  | st h => exact .st (h.mono (.of_same s))
  | ow h r => exact .ow (s _ _ h) (r.mono (.of_same s))
theorem RpWA.same {K : Fr_} {H H' : Hp} (s : Same H H') : ∀ {vs : List V} {ds : List D}, RpWA K H vs ds → RpWA K H' vs ds
  | _, _, .nil => .nil
  | _, _, .cons h r => .cons (h.same s) (RpWA.same s r)
theorem RpWA.of {K : Fr_} {H : Hp} : ∀ {vs : List V} {ds : List D}, RpA K H vs ds → RpWA K H vs ds
  | _, _, .nil => .nil
  | _, _, .cons h r => .cons (.st h) (RpWA.of r)
theorem RpW.dp {K : Fr_} {H : Hp} {v : V} {d : D} (h : RpW K H v d) : Dp K H v d := by
  cases h with
  | st h => exact h.dp
  | ow h r => exact .lst (SqL.of h) r.dp
theorem RpW.int {K : Fr_} {H : Hp} {v : V} {i : Int} (h : RpW K H v (.int i)) : v = .int i := by
  cases h with | st h => cases h; rfl
theorem RpW.str {K : Fr_} {H : Hp} {v : V} {i : Str} (h : RpW K H v (.str i)) : v = .str i := by
  cases h with | st h => cases h; rfl
theorem RpW.bool {K : Fr_} {H : Hp} {v : V} {i : Bool} (h : RpW K H v (.bool i)) : v = .bl i := by
  cases h with | st h => cases h; rfl
theorem RpW.none_ {K : Fr_} {H : Hp} {v : V} (h : RpW K H v .none) : v = .non := by
  cases h with | st h => cases h; rfl
theorem RpW.tuple {K : Fr_} {H : Hp} {v : V} {ds : List D} (h : RpW K H v (.tuple ds)) : ∃ a xs, v = .ref a ∧ SqT K H a xs ∧ RpA K H xs ds := by
  cases h with | st h => cases h with | tup h r => exact ⟨_, _, rfl, h, r⟩
theorem RpW.list {K : Fr_} {H : Hp} {v : V} {ds : List D} (h : RpW K H v (.list ds)) : ∃ a xs, v = .ref a ∧ SqL K H a xs ∧ RpA K H xs ds := by
  cases h with
  | st h => cases h with | lst h r => exact ⟨_, _, rfl, h.sq, r⟩
  | ow h r => exact ⟨_, _, rfl, SqL.of h, r⟩
theorem EnvOk.fresh0 {K : Fr_} {c : FC} {σ : St} {H : Hp} {Γ : Env_} (E : EnvOk K c σ H Γ) {a : Addr} (h : H a = none) : c.H0 a = none := by
  cases q : c.H0 a with
  | none => rfl
  | some o =>
    by_cases hm : ∃ p ∈ c.M, p.2 = a
    · obtain ⟨p, hp, e⟩ := hm
      obtain ⟨h1, k, h2, h3⟩ := E.pins p hp
      obtain ⟨xs, z⟩ := E.owned ⟨p.1, k, h2, h3, h1⟩
      rw [e, h] at z
      cases z
    · have z := E.pres a o q fun p hp e => hm ⟨p, hp, e⟩
      rw [h] at z
      cases z
theorem EnvOk.notOwn {K : Fr_} {c : FC} {σ : St} {H : Hp} {Γ : Env_} (E : EnvOk K c σ H Γ) {a : Addr} (h : H a = none) : ¬ Owns Γ σ a := fun o => by
  obtain ⟨xs, z⟩ := E.owned o
  rw [h] at z
  cases z
section
variable (X : Cx) (c : FC) (Γ : Env_)
/-- e gives m's value, which stands still; nothing changes -/
def DE (e : Expr) (m : Option D) : Prop := ∀ d, m = some d → ∀ (σ : St) (H : Hp) (Q : VK), EnvOk X.K c σ H Γ → (∀ v H', Same H H' → Rp X.K H' v d → Q v H') → sE X e σ H Q
/-- .. a value, maybe a list that a slot holds -/
def DW (e : Expr) (m : Option D) : Prop := ∀ d, m = some d → ∀ (σ : St) (H : Hp) (Q : VK), EnvOk X.K c σ H Γ → (∀ v H', Same H H' → RpW X.K H' v d → Q v H') → sE X e σ H Q
/-- .. a new list -/
def DF (e : Expr) (m : Option (List D)) : Prop := ∀ ds, m = some ds → ∀ (σ : St) (H : Hp) (Q : VK), EnvOk X.K c σ H Γ → (∀ a H' xs, H a = none → Same H H' → H' a = some (.lst xs) → RpA X.K H' xs ds → Q (.ref a) H') → sE X e σ H Q
/-- arguments -/
def DA (es : List Expr) (m : Option (List D)) : Prop := ∀ ds, m = some ds → ∀ (σ : St) (H : Hp) (Q : List V → Hp → Prop), EnvOk X.K c σ H Γ → (∀ vs H', Same H H' → RpA X.K H' vs ds → Q vs H') → sEs X es σ H Q
def DAw (es : List Expr) (m : Option (List D)) : Prop := ∀ ds, m = some ds → ∀ (σ : St) (H : Hp) (Q : List V → Hp → Prop), EnvOk X.K c σ H Γ → (∀ vs H', Same H H' → RpWA X.K H' vs ds → Q vs H') → sEs X es σ H Q
/-- a test -/
def DT (e : Expr) (m : Option Bool) : Prop := ∀ b, m = some b → ∀ (σ : St) (H : Hp) (Q : Bool → Hp → Prop), EnvOk X.K c σ H Γ → (∀ H', Same H H' → Q b H') → sT X e σ H Q
def DTw (e : Expr) (m : Option Bool) : Prop := ∀ b, m = some b → ∀ (σ : St) (H : Hp) (Q : Bool → Hp → Prop), EnvOk X.K c σ H Γ → (∀ H', Same H H' → Q b H') → sW X e σ H Q
end
/-- what no slot holds stays; no slot holds what it did not hold; what slots held is there -/
structure Step (Γ Γ' : Env_) (σ : St) (H H' : Hp) : Prop where
  s1 : ∀ b o, H b = some o → ¬ Owns Γ σ b → H' b = some o
  s2 : ∀ a, Owns Γ' σ a → Owns Γ σ a
  s3 : ∀ a, Owns Γ σ a → H' a ≠ none
section
variable (X : Cx) (c : FC) {T : Type} (G : T → Env_)
/-- the same where lists that slots hold may change on the way: G tells the slots from what changes -/
def DX (e : Expr) (m : T → Option (D × T)) : Prop := ∀ t d t', m t = some (d, t') → ∀ (σ : St) (H : Hp) (Q : VK), EnvOk X.K c σ H (G t) → (∀ v H', EnvOk X.K c σ H' (G t') → Step (G t) (G t') σ H H' → Rp X.K H' v d → Q v H') → sE X e σ H Q
def DXF (e : Expr) (m : T → Option (List D × T)) : Prop := ∀ t ds t', m t = some (ds, t') → ∀ (σ : St) (H : Hp) (Q : VK), EnvOk X.K c σ H (G t) → (∀ a H' xs, H a = none → EnvOk X.K c σ H' (G t') → Step (G t) (G t') σ H H' → H' a = some (.lst xs) → RpA X.K H' xs ds → Q (.ref a) H') → sE X e σ H Q
def DXA (es : List Expr) (m : T → Option (List D × T)) : Prop := ∀ t ds t', m t = some (ds, t') → ∀ (σ : St) (H : Hp) (Q : List V → Hp → Prop), EnvOk X.K c σ H (G t) → (∀ vs H', EnvOk X.K c σ H' (G t') → Step (G t) (G t') σ H H' → RpA X.K H' vs ds → Q vs H') → sEs X es σ H Q
def DXT (e : Expr) (m : T → Option (Bool × T)) : Prop := ∀ t b t', m t = some (b, t') → ∀ (σ : St) (H : Hp) (Q : Bool → Hp → Prop), EnvOk X.K c σ H (G t) → (∀ H', EnvOk X.K c σ H' (G t') → Step (G t) (G t') σ H H' → Q b H') → sT X e σ H Q
def DXTw (e : Expr) (m : T → Option (Bool × T)) : Prop := ∀ t b t', m t = some (b, t') → ∀ (σ : St) (H : Hp) (Q : Bool → Hp → Prop), EnvOk X.K c σ H (G t) → (∀ H', EnvOk X.K c σ H' (G t') → Step (G t) (G t') σ H H' → Q b H') → sW X e σ H Q
end
theorem Step.refl {K : Fr_} {c : FC} {Γ : Env_} {σ : St} {H : Hp} (E : EnvOk K c σ H Γ) : Step Γ Γ σ H H := ⟨fun _ _ h _ => h, fun _ h => h, fun a h => by
  obtain ⟨xs, e⟩ := E.owned h
  rw [e]
  intro z
  cases z⟩
theorem Step.of_same {K : Fr_} {c : FC} {Γ : Env_} {σ : St} {H H' : Hp} (E : EnvOk K c σ H Γ) (s : Same H H') : Step Γ Γ σ H H' := ⟨fun b o h _ => s b o h, fun _ h => h, fun a h => by
  obtain ⟨xs, e⟩ := E.owned h
  rw [s _ _ e]
  intro z
  cases z⟩
theorem Step.trans {Γ Γ1 Γ2 : Env_} {σ : St} {H H1 H2 : Hp} (a : Step Γ Γ1 σ H H1) (b : Step Γ1 Γ2 σ H1 H2) : Step Γ Γ2 σ H H2 := ⟨fun x o e n => b.1 x o (a.1 x o e n) fun q => n (a.2 x q), fun x h => a.2 x (b.2 x h), fun x h => by
  by_cases hw : Owns Γ1 σ x
  · exact b.3 x hw
  · cases q : H1 x with
    | none => exact absurd q (a.3 x h)
    | some o =>
      rw [b.1 x o q hw]
      intro z
      cases z⟩
theorem Step.mono {K : Fr_} {c : FC} {Γ Γ1 : Env_} {σ : St} {H H1 : Hp} (E : EnvOk K c σ H Γ) (a : Step Γ Γ1 σ H H1) : Mono H H1 := Kept.mono E a.1
theorem Step.free {K : Fr_} {c : FC} {Γ Γ1 : Env_} {σ : St} {H H1 : Hp} (E : EnvOk K c σ H Γ) (a : Step Γ Γ1 σ H H1) {p : Addr} (h : H1 p = none) : H p = none := by
  cases q : H p with
  | none => rfl
  | some o =>
    by_cases hw : Owns Γ σ p
    · exfalso
      exact a.3 p hw h
    · rw [a.1 p o q hw] at h
      cases h
section
variable {X : Cx} {c : FC} {Γ : Env_}
theorem DE.w {e : Expr} {m : Option D} (h : DE X c Γ e m) : DW X c Γ e m := fun d hd σ H Q E k => h d hd σ H Q E fun v H' s r => k v H' s (.st r)
theorem DA.w {es : List Expr} {m : Option (List D)} (h : DA X c Γ es m) : DAw X c Γ es m := fun d hd σ H Q E k => h d hd σ H Q E fun v H' s r => k v H' s (.of r)
theorem DTw.t {e : Expr} {m : Option Bool} (h : DTw X c Γ e m) : DT X c Γ e m := fun d hd σ H Q E k => fun pins s I => h d hd σ H Q E k _ pins s I
/-- a list that was made and is held by no slot stands still from then on -/
theorem DF.e {e : Expr} {m : Option (List D)} (h : DF X c Γ e m) : DE X c Γ e (m.map .list) := fun d hd σ H Q E k => by
  obtain ⟨ds, e1, rfl⟩ := Option.map_eq_some_iff.mp hd
  refine sE_of (pe_frz (pe_s e)) ?_
  refine h ds e1 σ H _ E fun a H' xs hn s ha r => ⟨a, _, rfl, ha, trivial, fun o => ?_⟩
  have m' : Mono H' (upd H' a (.frz o (.lst xs))) := by
    refine ⟨fun b zs hb => ?_, fun b o' u hb => ?_⟩
    · rw [upd_ne (ne_of hb ha (by intro z; cases z))]
      exact hb
    · rw [upd_ne (ne_of hb ha (by intro z; cases z))]
      exact hb
  refine k _ _ (fun b o' e' => ?_) (.lst (.inl ⟨o, upd_same⟩) (r.mono m'))
  rw [upd_ne (ne_of_none e' hn)]
  exact s b o' e'
/-! constants, names -/
theorem de_int {i : Int} {j : Nat} {pos : Pos} : DE X c Γ (.Constant (.int i) j pos) (some (.int i)) := fun d hd σ H Q E k => by
  cases hd
  exact sE_of pe_int (k _ H (Same.refl H) (.int i))
theorem de_str {i : Str} {j : Nat} {pos : Pos} : DE X c Γ (.Constant (.str i) j pos) (some (.str i)) := fun d hd σ H Q E k => by
  cases hd
  exact sE_of pe_str (k _ H (Same.refl H) (.str i))
theorem de_bool {i : Bool} {j : Nat} {pos : Pos} : DE X c Γ (.Constant (.bool i) j pos) (some (.bool i)) := fun d hd σ H Q E k => by
  cases hd
  exact sE_of pe_bl (k _ H (Same.refl H) (.bl i))
theorem de_none {j : Nat} {pos : Pos} : DE X c Γ (.Constant .none j pos) (some .none) := fun d hd σ H Q E k => by
  cases hd
  exact sE_of pe_non (k _ H (Same.refl H) .non)
theorem de_var (i : Nat) {d : D} {x : Str} {pos : Pos} (h : Γ[i]? = some (.imm d) := by rfl) (hN : X.N[i]? = some x := by rfl) (hv : Vis X.env.scope x := by first | exact Or.inl rfl | exact Or.inr (Or.inl rfl) | exact Or.inr (Or.inr rfl)) (hd : (x == ("__debug__" : Str)) = false := by decide)
    (hcd : (x == ("__classdict__" : Str)) = false := by decide) : DE X c Γ (.Name x pos) (some d) := fun d' hd' σ H Q E k => by
  cases hd'
  obtain ⟨v, e, r⟩ := E.cells i _ h
  exact sE_of (pe_var hN hv hd hcd) ⟨v, e, k v H (Same.refl H) r⟩
theorem dw_own (i : Nat) {ds : List D} {x : Str} {pos : Pos} (h : Γ[i]? = some (.own ds) := by rfl) (hN : X.N[i]? = some x := by rfl) (hv : Vis X.env.scope x := by first | exact Or.inl rfl | exact Or.inr (Or.inl rfl) | exact Or.inr (Or.inr rfl)) (hd : (x == ("__debug__" : Str)) = false := by decide)
    (hcd : (x == ("__classdict__" : Str)) = false := by decide) : DW X c Γ (.Name x pos) (some (.list ds)) := fun d' hd' σ H Q E k => by
  cases hd'
  obtain ⟨a, xs, e, ha, r⟩ := E.cells i _ h
  exact sE_of (pe_var hN hv hd hcd) ⟨_, e, k _ H (Same.refl H) (.ow ha r)⟩
theorem de_gint {x : Str} {i : Int} {pos : Pos} (hm : ∃ t, X.mg x = some (.int i t)) (hg : Gl X x := by rfl) (hd : (x == ("__debug__" : Str)) = false := by decide) : DE X c Γ (.Name x pos) (some (.int i)) := fun d' hd' σ H Q E k => by
  cases hd'
  obtain ⟨t, hm⟩ := hm
  exact sE_of (pe_glob (v := .int i) hg hm ⟨t, rfl⟩ hd) (k _ H (Same.refl H) (.int i))
theorem de_gstr {x i : Str} {pos : Pos} (hm : ∃ t, X.mg x = some (.str i t)) (hg : Gl X x := by rfl) (hd : (x == ("__debug__" : Str)) = false := by decide) : DE X c Γ (.Name x pos) (some (.str i)) := fun d' hd' σ H Q E k => by
  cases hd'
  obtain ⟨t, hm⟩ := hm
  exact sE_of (pe_glob (v := .str i) hg hm ⟨t, rfl⟩ hd) (k _ H (Same.refl H) (.str i))
/-! arguments -/
def consO (m : Option D) (ms : Option (List D)) : Option (List D) := m.bind fun x => ms.map (x :: ·)
theorem da_nil : DA X c Γ [] (some []) := fun ds hd σ H Q E k => by
  cases hd
  exact k [] H (Same.refl H) .nil
theorem da_cons {e : Expr} {es : List Expr} {m : Option D} {ms : Option (List D)} (h : DE X c Γ e m) (hs : DA X c Γ es ms) : DA X c Γ (e :: es) (consO m ms) := fun ds hd σ H Q E k => by
  obtain ⟨x, e1, e2⟩ := Option.bind_eq_some_iff.mp hd
  obtain ⟨xs, e3, rfl⟩ := Option.map_eq_some_iff.mp e2
  refine h x e1 σ H _ E fun v H1 s1 r1 => hs xs e3 σ H1 _ (E.same s1) fun vs H2 s2 r2 => k _ _ (s1.trans s2) (.cons (r1.mono (.of_same s2)) r2)
theorem daw_nil : DAw X c Γ [] (some []) := fun ds hd σ H Q E k => by
  cases hd
  exact k [] H (Same.refl H) .nil
theorem daw_cons {e : Expr} {es : List Expr} {m : Option D} {ms : Option (List D)} (h : DW X c Γ e m) (hs : DAw X c Γ es ms) : DAw X c Γ (e :: es) (consO m ms) := fun ds hd σ H Q E k => by
  obtain ⟨x, e1, e2⟩ := Option.bind_eq_some_iff.mp hd
  obtain ⟨xs, e3, rfl⟩ := Option.map_eq_some_iff.mp e2
  refine h x e1 σ H _ E fun v H1 s1 r1 => hs xs e3 σ H1 _ (E.same s1) fun vs H2 s2 r2 => k _ _ (s1.trans s2) (.cons (r1.same s2) r2)
/-! two-place operators -/
def bin (g : D → D → Option D) (a b : Option D) : Option D := a.bind fun x => b.bind fun y => g x y
/-- an operator, by values: g tells its value -/
def OpD (X : Cx) (f : Value → Value → Sem Value) (g : D → D → Option D) : Prop :=
  OpR X f fun v u H Q => ∃ x y z, RpW X.K H v x ∧ RpW X.K H u y ∧ g x y = some z ∧ ∀ w H', Same H H' → Rp X.K H' w z → Q w H'
theorem de_op {op : Operator} {g : D → D → Option D} {a b : Expr} {ma mb : Option D} {pos : Pos} (ho : OpD X (binaryOp op) g) (ha : DW X c Γ a ma) (hb : DW X c Γ b mb) : DE X c Γ (.BinOp a op b pos) (bin g ma mb) := fun d hd σ H Q E k => by
  obtain ⟨x, e1, e2⟩ := Option.bind_eq_some_iff.mp hd
  obtain ⟨y, e3, e4⟩ := Option.bind_eq_some_iff.mp e2
  refine sE_of (pe_op ho (pe_s a) (pe_s b)) ?_
  refine ha x e1 σ H _ E fun v H1 s1 r1 => hb y e3 σ H1 _ (E.same s1) fun u H2 s2 r2 => ⟨x, y, d, r1.same s2, r2, e4, fun w H3 s3 r3 => k w H3 ((s1.trans s2).trans s3) r3⟩
theorem de_cmp {op : CmpOp} {g : D → D → Option D} {a b : Expr} {ma mb : Option D} {pos : Pos} (ho : OpD X (compareOp op) g) (ha : DW X c Γ a ma) (hb : DW X c Γ b mb) (hm : behindInMarks op b = false := by first | rfl | exact nomark _) : DE X c Γ (.Compare a [op] [b] pos) (bin g ma mb) := fun d hd σ H Q E k => by
  obtain ⟨x, e1, e2⟩ := Option.bind_eq_some_iff.mp hd
  obtain ⟨y, e3, e4⟩ := Option.bind_eq_some_iff.mp e2
  refine sE_of (pe_cmpR ho (pe_s a) (pe_s b) hm) ?_
  refine ha x e1 σ H _ E fun v H1 s1 r1 => hb y e3 σ H1 _ (E.same s1) fun u H2 s2 r2 => ⟨x, y, d, r1.same s2, r2, e4, fun w H3 s3 r3 => k w H3 ((s1.trans s2).trans s3) r3⟩
def isB : D → Option Bool
  | .bool b => some b
  | _ => none
theorem isB_eq {d : D} {b : Bool} (h : isB d = some b) : d = .bool b := by
  cases d <;> simp [isB] at h
  rw [h]
theorem dt_cmp {op : CmpOp} {g : D → D → Option D} {a b : Expr} {ma mb : Option D} {pos : Pos} (ho : OpD X (compareOp op) g) (ha : DW X c Γ a ma) (hb : DW X c Γ b mb) (hm : behindInMarks op b = false := by first | rfl | exact nomark _) : DT X c Γ (.Compare a [op] [b] pos) ((bin g ma mb).bind isB) := fun d hd σ H Q E k => by
  obtain ⟨z, e0, e5⟩ := Option.bind_eq_some_iff.mp hd
  obtain ⟨x, e1, e2⟩ := Option.bind_eq_some_iff.mp e0
  obtain ⟨y, e3, e4⟩ := Option.bind_eq_some_iff.mp e2
  have ez := isB_eq e5
  subst ez
  refine sT_of (pt_cmpR ho (pe_s a) (pe_s b) hm) ?_
  refine ha x e1 σ H _ E fun v H1 s1 r1 => hb y e3 σ H1 _ (E.same s1) fun u H2 s2 r2 => ⟨x, y, _, r1.same s2, r2, e4, fun w H3 s3 r3 => ⟨d, RpW.bool (.st r3), k H3 ((s1.trans s2).trans s3)⟩⟩
/-- a < b < c -/
def chainO (g g' : D → D → Option D) (a b c : Option D) : Option D := a.bind fun x => b.bind fun y => (g x y).bind fun z => (isB z).bind fun t => if t then c.bind fun w => g' y w else some (.bool false)
theorem de_chain {op op' : CmpOp} {g g' : D → D → Option D} {a b e : Expr} {ma mb me : Option D} {pos : Pos} (ho : OpD X (compareOp op) g) (ho' : OpD X (compareOp op') g') (ha : DW X c Γ a ma) (hb : DW X c Γ b mb) (he : DW X c Γ e me)
    (hm : lastMarks [op, op'] [b, e] = false := by with_unfolding_all rfl) : DE X c Γ (.Compare a [op, op'] [b, e] pos) (chainO g g' ma mb me) := fun d hd σ H Q E k => by
  obtain ⟨x, e1, e2⟩ := Option.bind_eq_some_iff.mp hd
  obtain ⟨y, e3, e4⟩ := Option.bind_eq_some_iff.mp e2
  obtain ⟨z, e5, e6⟩ := Option.bind_eq_some_iff.mp e4
  obtain ⟨t, e7, e8⟩ := Option.bind_eq_some_iff.mp e6
  have ez := isB_eq e7
  subst ez
  refine sE_of (pe_chain ho ho' (pe_s a) (pe_s b) (pe_s e) hm) ?_
  refine ha x e1 σ H _ E fun v H1 s1 r1 => hb y e3 σ H1 _ (E.same s1) fun u H2 s2 r2 => ⟨x, y, _, r1.same s2, r2, e5, fun w H3 s3 r3 => ⟨t, RpW.bool (.st r3), ?_⟩⟩
  cases t with
  | true =>
    rw [if_pos rfl] at e8 ⊢
    obtain ⟨w2, e9, e10⟩ := Option.bind_eq_some_iff.mp e8
    exact he w2 e9 σ H3 _ ((E.same (s1.trans s2)).same s3) fun u4 H4 s4 r4 => ⟨y, w2, d, (r2.same s3).same s4, r4, e10, fun w5 H5 s5 r5 => k w5 H5 ((((s1.trans s2).trans s3).trans s4).trans s5) r5⟩
  | false =>
    rw [if_neg Bool.false_ne_true] at e8 ⊢
    cases e8
    exact k _ _ ((s1.trans s2).trans s3) (.bl false)
end
end DL

set_option Elab.async false
set_option linter.all false
set_option maxRecDepth 100000
set_option maxHeartbeats 2000000
set_option autoImplicit false
namespace DL
open PySem PySem.Spec PyProof.Rows L2
section
variable {X : Cx} {c : FC} {Γ : Env_}
theorem dt_chain {op op' : CmpOp} {g g' : D → D → Option D} {a b e : Expr} {ma mb me : Option D} {pos : Pos} (ho : OpD X (compareOp op) g) (ho' : OpD X (compareOp op') g') (ha : DW X c Γ a ma) (hb : DW X c Γ b mb) (he : DW X c Γ e me)
    (hm : lastMarks [op, op'] [b, e] = false := by with_unfolding_all rfl) : DT X c Γ (.Compare a [op, op'] [b, e] pos) ((chainO g g' ma mb me).bind isB) := fun d hd σ H Q E k => by
  obtain ⟨w0, e0, e00⟩ := Option.bind_eq_some_iff.mp hd
  obtain ⟨x, e1, e2⟩ := Option.bind_eq_some_iff.mp e0
  obtain ⟨y, e3, e4⟩ := Option.bind_eq_some_iff.mp e2
  obtain ⟨z, e5, e6⟩ := Option.bind_eq_some_iff.mp e4
  obtain ⟨t, e7, e8⟩ := Option.bind_eq_some_iff.mp e6
  have ez := isB_eq e7
  subst ez
  have ew := isB_eq e00
  subst ew
  refine sT_of (pt_chain ho ho' (pe_s a) (pe_s b) (pe_s e) hm) ?_
  refine ha x e1 σ H _ E fun v H1 s1 r1 => hb y e3 σ H1 _ (E.same s1) fun u H2 s2 r2 => ⟨x, y, _, r1.same s2, r2, e5, fun w H3 s3 r3 => ⟨t, RpW.bool (.st r3), ?_⟩⟩
  cases t with
  | true =>
    rw [if_pos rfl] at e8 ⊢
    obtain ⟨w2, e9, e10⟩ := Option.bind_eq_some_iff.mp e8
    exact he w2 e9 σ H3 _ ((E.same (s1.trans s2)).same s3) fun u4 H4 s4 r4 => ⟨y, w2, _, (r2.same s3).same s4, r4, e10, fun w5 H5 s5 r5 => ⟨d, RpW.bool (.st r5), k H5 ((((s1.trans s2).trans s3).trans s4).trans s5)⟩⟩
  | false =>
    rw [if_neg Bool.false_ne_true] at e8 ⊢
    cases e8
    exact ⟨false, rfl, k _ ((s1.trans s2).trans s3)⟩
/-! and, or, not as tests -/
def andT (a b : Option Bool) : Option Bool := a.bind fun x => if x then b else some false
def orT (a b : Option Bool) : Option Bool := a.bind fun x => if x then some true else b
theorem dt_val {e : Expr} {m : Option D} (h : DE X c Γ e m) (he : ∀ whole, isTrue e X.env whole = (do let v ← whole; standAt e.pos; holding [v] (truthy v)) := by intro _; rfl) : DT X c Γ e (m.bind isB) := fun d hd σ H Q E k => by
  obtain ⟨z, e0, e5⟩ := Option.bind_eq_some_iff.mp hd
  have ez := isB_eq e5
  subst ez
  exact sT_of (pt_val (pe_s e) he) (h _ e0 σ H _ E fun v H' s r => ⟨d, RpW.bool (.st r), k H' s⟩)
theorem dw_and1 {a : Expr} {ma : Option Bool} {pos : Pos} (h : DT X c Γ a ma) : DTw X c Γ (.BoolOp .And [a] pos) ma := fun d hd σ H Q E k => sW_of (pw_and1 (pt_s a)) (h d hd σ H _ E k)
theorem dw_or1 {a : Expr} {ma : Option Bool} {pos : Pos} (h : DT X c Γ a ma) : DTw X c Γ (.BoolOp .Or [a] pos) ma := fun d hd σ H Q E k => sW_of (pw_or1 (pt_s a)) (h d hd σ H _ E k)
theorem dw_and {a b : Expr} {rest : List Expr} {ma mb : Option Bool} {pos : Pos} (h : DT X c Γ a ma) (hb : DTw X c Γ (.BoolOp .And (b :: rest) pos) mb) : DTw X c Γ (.BoolOp .And (a :: b :: rest) pos) (andT ma mb) := fun d hd σ H Q E k => by
  obtain ⟨x, e1, e2⟩ := Option.bind_eq_some_iff.mp hd
  refine sW_of (pw_and (pt_s a) (pw_s _)) (h x e1 σ H _ E fun H1 s1 => ?_)
  cases x with
  | true => exact iteT (hb d e2 σ H1 _ (E.same s1) fun H2 s2 => k H2 (s1.trans s2))
  | false =>
    rw [if_neg Bool.false_ne_true] at e2
    cases e2
    exact iteF (k H1 s1)
theorem dw_or {a b : Expr} {rest : List Expr} {ma mb : Option Bool} {pos : Pos} (h : DT X c Γ a ma) (hb : DTw X c Γ (.BoolOp .Or (b :: rest) pos) mb) : DTw X c Γ (.BoolOp .Or (a :: b :: rest) pos) (orT ma mb) := fun d hd σ H Q E k => by
  obtain ⟨x, e1, e2⟩ := Option.bind_eq_some_iff.mp hd
  refine sW_of (pw_or (pt_s a) (pw_s _)) (h x e1 σ H _ E fun H1 s1 => ?_)
  cases x with
  | true =>
    rw [if_pos rfl] at e2
    cases e2
    exact iteT (k H1 s1)
  | false => exact iteF (hb d e2 σ H1 _ (E.same s1) fun H2 s2 => k H2 (s1.trans s2))
theorem dt_not {a : Expr} {ma : Option Bool} {pos : Pos} (h : DT X c Γ a ma) : DT X c Γ (.UnaryOp .Not a pos) (ma.map (!·)) := fun d hd σ H Q E k => by
  obtain ⟨x, e1, rfl⟩ := Option.map_eq_some_iff.mp hd
  exact sT_of (pt_not (pt_s a)) (h x e1 σ H _ E fun H1 s1 => k H1 s1)
/-! the same as values -/
def andV (a b : Option D) : Option D := (a.bind isB).bind fun x => if x then b else some (.bool false)
def orV (a b : Option D) : Option D := (a.bind isB).bind fun x => if x then some (.bool true) else b
def notV (a : Option D) : Option D := (a.bind isB).map fun x => .bool (!x)
theorem de_one {op : BoolOp} {a : Expr} {ma : Option D} {pos : Pos} (h : DE X c Γ a ma) : DE X c Γ (.BoolOp op [a] pos) ma := fun d hd σ H Q E k => sE_of (pe_one (pe_s a)) (h d hd σ H Q E k)
theorem de_and {a b : Expr} {rest : List Expr} {ma mb : Option D} {pos : Pos} (h : DE X c Γ a ma) (hb : DE X c Γ (.BoolOp .And (b :: rest) pos) mb) : DE X c Γ (.BoolOp .And (a :: b :: rest) pos) (andV ma mb) := fun d hd σ H Q E k => by
  obtain ⟨x, e0, e2⟩ := Option.bind_eq_some_iff.mp hd
  obtain ⟨z, e1, e3⟩ := Option.bind_eq_some_iff.mp e0
  have ez := isB_eq e3
  subst ez
  refine sE_of (pe_and (pe_s a) (pe_s _)) (h _ e1 σ H _ E fun v H1 s1 r1 => ⟨x, RpW.bool (.st r1), ?_⟩)
  cases x with
  | true => exact iteT (hb d e2 σ H1 _ (E.same s1) fun w H2 s2 r2 => k w H2 (s1.trans s2) r2)
  | false =>
    rw [if_neg Bool.false_ne_true] at e2
    cases e2
    exact iteF (k _ H1 s1 (.bl false))
theorem de_or {a b : Expr} {rest : List Expr} {ma mb : Option D} {pos : Pos} (h : DE X c Γ a ma) (hb : DE X c Γ (.BoolOp .Or (b :: rest) pos) mb) : DE X c Γ (.BoolOp .Or (a :: b :: rest) pos) (orV ma mb) := fun d hd σ H Q E k => by
  obtain ⟨x, e0, e2⟩ := Option.bind_eq_some_iff.mp hd
  obtain ⟨z, e1, e3⟩ := Option.bind_eq_some_iff.mp e0
  have ez := isB_eq e3
  subst ez
  refine sE_of (pe_or (pe_s a) (pe_s _)) (h _ e1 σ H _ E fun v H1 s1 r1 => ⟨x, RpW.bool (.st r1), ?_⟩)
  cases x with
  | true =>
    rw [if_pos rfl] at e2
    cases e2
    exact iteT (k _ H1 s1 (.bl true))
  | false => exact iteF (hb d e2 σ H1 _ (E.same s1) fun w H2 s2 r2 => k w H2 (s1.trans s2) r2)
theorem de_not {a : Expr} {ma : Option D} {pos : Pos} (h : DE X c Γ a ma) : DE X c Γ (.UnaryOp .Not a pos) (notV ma) := fun d hd σ H Q E k => by
  obtain ⟨x, e0, rfl⟩ := Option.map_eq_some_iff.mp hd
  obtain ⟨z, e1, e3⟩ := Option.bind_eq_some_iff.mp e0
  have ez := isB_eq e3
  subst ez
  exact sE_of (pe_not (pe_s a)) (h _ e1 σ H _ E fun v H1 s1 r1 => ⟨x, RpW.bool (.st r1), k _ H1 s1 (.bl (!x))⟩)
/-! a if t else b -/
def iteO {α : Type} (t : Option Bool) (a b : Option α) : Option α := t.bind fun x => if x then a else b
theorem de_ite {t a b : Expr} {mt : Option Bool} {ma mb : Option D} {pos : Pos} (ht : DT X c Γ t mt) (ha : DE X c Γ a ma) (hb : DE X c Γ b mb) : DE X c Γ (.IfExp t a b pos) (iteO mt ma mb) := fun d hd σ H Q E k => by
  obtain ⟨x, e1, e2⟩ := Option.bind_eq_some_iff.mp hd
  refine sE_of (pe_ifExp (pt_s t) (pe_s a) (pe_s b)) (ht x e1 σ H _ E fun H1 s1 => ?_)
  cases x with
  | true => exact iteT (ha d e2 σ H1 _ (E.same s1) fun w H2 s2 r2 => k w H2 (s1.trans s2) r2)
  | false => exact iteF (hb d e2 σ H1 _ (E.same s1) fun w H2 s2 r2 => k w H2 (s1.trans s2) r2)
theorem df_ite {t a b : Expr} {mt : Option Bool} {ma mb : Option (List D)} {pos : Pos} (ht : DT X c Γ t mt) (ha : DF X c Γ a ma) (hb : DF X c Γ b mb) : DF X c Γ (.IfExp t a b pos) (iteO mt ma mb) := fun d hd σ H Q E k => by
  obtain ⟨x, e1, e2⟩ := Option.bind_eq_some_iff.mp hd
  refine sE_of (pe_ifExp (pt_s t) (pe_s a) (pe_s b)) (ht x e1 σ H _ E fun H1 s1 => ?_)
  cases x with
  | true => exact iteT (ha d e2 σ H1 _ (E.same s1) fun a H2 xs hn s2 h2 r2 => k a H2 xs (s1.free hn) (s1.trans s2) h2 r2)
  | false => exact iteF (hb d e2 σ H1 _ (E.same s1) fun a H2 xs hn s2 h2 r2 => k a H2 xs (s1.free hn) (s1.trans s2) h2 r2)
/-! displays -/
theorem da_len : ∀ {es : List Expr} {ds : List D}, sEs X es = sEs X es → True := fun _ => trivial
theorem small_ok {n : Nat} (h : n ≤ 1000) : n ≤ sizeLine := Nat.le_trans h (by decide)
def lenOk (m : Option (List D)) : Option (List D) := m.bind fun ds => if ds.length ≤ 100000 then some ds else none
theorem de_tup {es : List Expr} {m : Option (List D)} {x1 : Nat} {pos : Pos} (h : DA X c Γ es m) (hs : NoStar X es := by exact ⟨rfl, rfl, rfl, rfl, trivial⟩) : DE X c Γ (.Tuple es x1 pos) ((lenOk m).map .tuple) := fun d hd σ H Q E k => by
  obtain ⟨ds, e0, rfl⟩ := Option.map_eq_some_iff.mp hd
  obtain ⟨ds', e1, e2⟩ := Option.bind_eq_some_iff.mp e0
  split at e2
  · rename_i hl
    cases e2
    refine sE_of (pe_tup (pa_s hs)) (h _ e1 σ H _ E fun vs H1 s1 r1 => ⟨?_, fun p hp => ?_⟩)
    · rw [r1.length]
      exact Nat.le_trans hl (by decide)
    · exact k _ _ (s1.trans (Same.new hp)) (.tup (SqT.of upd_same) (r1.mono (.of_same (Same.new hp))))
  · cases e2
theorem df_lst {es : List Expr} {m : Option (List D)} {pos : Pos} (h : DA X c Γ es m) (hs : NoStar X es := by exact ⟨rfl, rfl, rfl, rfl, trivial⟩) : DF X c Γ (.List es pos) (lenOk m) := fun d hd σ H Q E k => by
  obtain ⟨ds', e1, e2⟩ := Option.bind_eq_some_iff.mp hd
  split at e2
  · rename_i hl
    cases e2
    refine sE_of (pe_lst (pa_s hs)) (h _ e1 σ H _ E fun vs H1 s1 r1 => ⟨?_, fun p hp => ?_⟩)
    · rw [r1.length]
      exact Nat.le_trans hl (by decide)
    · exact k _ _ _ (s1.free hp) (s1.trans (Same.new hp)) upd_same (r1.mono (.of_same (Same.new hp)))
  · cases e2
/-! items, slices -/
def IxD (X : Cx) (g : D → D → Option D) : Prop := IxR X fun v u H Q => ∃ x y z, RpW X.K H v x ∧ RpW X.K H u y ∧ g x y = some z ∧ ∀ w H', Same H H' → Rp X.K H' w z → Q w H'
def dIx : D → D → Option D
  | .list ds, .int i => atI ds i
  | .tuple ds, .int i => atI ds i
  | .str s, .int i => if s.length ≤ sizeLine then (atI s.cps.toList i).map fun c => .str ⟨#[c]⟩ else none
  | _, _ => none
theorem RpA.atI {K : Fr_} {H : Hp} {vs : List V} {ds : List D} (r : RpA K H vs ds) {i : Int} {d : D} (h : L2.atI ds i = some d) : ∃ v, L2.atI vs i = some v ∧ Rp K H v d := by
  unfold L2.atI at h ⊢
  rw [r.length]
  obtain ⟨j, e1, e2⟩ := Option.bind_eq_some_iff.mp h
  obtain ⟨v, e3, e4⟩ := r.get e2
  exact ⟨v, by rw [e1]; exact e3, e4⟩
theorem IxR.imp {r r' : R2} (h : IxR X r) (k : ∀ x y H Q, r' x y H Q → r x y H Q) : IxR X r' := fun value slice pins s σ H x y v u Q I rx ry q hs => h value slice pins s σ H x y v u Q I rx ry (k _ _ _ _ q) hs
theorem OpR.imp {f : Value → Value → Sem Value} {r r' : R2} (h : OpR X f r) (k : ∀ x y H Q, r' x y H Q → r x y H Q) : OpR X f r' := fun pins s σ H x y v u Q I rx ry q => h pins s σ H x y v u Q I rx ry (k _ _ _ _ q)
theorem UnR.imp {f : Value → Sem Value} {r r' : V → Hp → VK → Prop} (h : UnR X f r) (k : ∀ x H Q, r' x H Q → r x H Q) : UnR X f r' := fun pins s σ H x v Q I rx q => h pins s σ H x v Q I rx (k _ _ _ q)
theorem CallR.imp {f : Value} {r r' : List V → Hp → VK → Prop} (h : CallR X f r) (k : ∀ x H Q, r' x H Q → r x H Q) : CallR X f r' := fun pins s σ H x v Q I rx q => h pins s σ H x v Q I rx (k _ _ _ q)
theorem MtR.imp {id : String} {r r' : V → List V → Hp → VK → Prop} (h : MtR X id r) (k : ∀ x y H Q, r' x y H Q → r x y H Q) : MtR X id r' := fun pins s σ H x y v u Q I rx ry q => h pins s σ H x y v u Q I rx ry (k _ _ _ _ q)
theorem SlR.imp {r r' : V → Option Int → Option Int → Hp → VK → Prop} (h : SlR X r) (k : ∀ x lo hi H Q, r' x lo hi H Q → r x lo hi H Q) : SlR X r' := fun pins s σ H x v vl vu lo hi sl Q I rx hs pl pu q => h pins s σ H x v vl vu lo hi sl Q I rx hs pl pu (k _ _ _ _ _ q)
theorem id_ix : IxD X dIx := IxR.imp ix_seq fun v u H Q ⟨x, y, z, h1, h2, e, k⟩ => by
  unfold dIx at e
  split at e
  · obtain ⟨a, xs, rfl, hq, r⟩ := h1.list
    have e2 := h2.int
    subst e2
    obtain ⟨w, e3, e4⟩ := r.atI e
    exact .inl ⟨a, xs, _, w, rfl, rfl, hq, e3, k w H (Same.refl H) e4⟩
  · obtain ⟨a, xs, rfl, hq, r⟩ := h1.tuple
    have e2 := h2.int
    subst e2
    obtain ⟨w, e3, e4⟩ := r.atI e
    exact .inr (.inl ⟨a, xs, _, w, rfl, rfl, hq, e3, k w H (Same.refl H) e4⟩)
  · have e1 := h1.str
    have e2 := h2.int
    subst e1 e2
    split at e
    · rename_i hl
      obtain ⟨ch, e3, rfl⟩ := Option.map_eq_some_iff.mp e
      exact .inr (.inr ⟨_, _, ch, rfl, rfl, hl, e3, k _ H (Same.refl H) (.str _)⟩)
    · cases e
  · cases e
theorem de_ix {a b : Expr} {ma mb : Option D} {pos : Pos} (ha : DW X c Γ a ma) (hb : DW X c Γ b mb) (hs : PlainIx b := by intro _ _; rfl) : DE X c Γ (.Subscript a b pos) (bin dIx ma mb) := fun d hd σ H Q E k => by
  obtain ⟨x, e1, e2⟩ := Option.bind_eq_some_iff.mp hd
  obtain ⟨y, e3, e4⟩ := Option.bind_eq_some_iff.mp e2
  refine sE_of (pe_ix id_ix (pe_s a) (pe_s b) hs) ?_
  refine ha x e1 σ H _ E fun v H1 s1 r1 => hb y e3 σ H1 _ (E.same s1) fun u H2 s2 r2 => ⟨x, y, d, r1.same s2, r2, e4, fun w H3 s3 r3 => k w H3 ((s1.trans s2).trans s3) r3⟩
/-- a part of a slice -/
def DO (X : Cx) (c : FC) (Γ : Env_) (e : Option Expr) (m : Option (Option Int)) : Prop := ∀ o, m = some o → ∀ (σ : St) (H : Hp) (Q : Option Int → Hp → Prop), EnvOk X.K c σ H Γ → (∀ H', Same H H' → Q o H') → ∃ t : TO, PO X e t ∧ t σ H Q
def isI : D → Option Int
  | .int b => some b
  | _ => none
theorem isI_eq {d : D} {b : Int} (h : isI d = some b) : d = .int b := by
  cases d <;> simp [isI] at h
  rw [h]
def partO : Option (Option D) → Option (Option Int)
  | none => some none
  | some m => m.bind fun d => (isI d).map some
/-- the part's own meaning -/
def sO (X : Cx) : Option Expr → TO
  | none => tNoPart
  | some e => tPart (sE X e)
theorem po_s : ∀ (e : Option Expr), PO X e (sO X e)
  | none => po_none
  | some e => po_some (pe_s e)
inductive DP (X : Cx) (c : FC) (Γ : Env_) : Option Expr → Option (Option Int) → Prop
  | no : DP X c Γ none (some none)
  | yes {e : Expr} {m : Option D} (h : DE X c Γ e m) : DP X c Γ (some e) (m.bind fun d => (isI d).map some)
theorem DP.run {e : Option Expr} {m : Option (Option Int)} (h : DP X c Γ e m) {o : Option Int} (ho : m = some o) {σ : St} {H : Hp} {Q : Option Int → Hp → Prop} (E : EnvOk X.K c σ H Γ) (k : ∀ H', Same H H' → Q o H') : sO X e σ H Q := by
  cases h with
  | no =>
    cases ho
    exact k H (Same.refl H)
  | yes h =>
    obtain ⟨d, e1, e2⟩ := Option.bind_eq_some_iff.mp ho
    obtain ⟨i, e3, rfl⟩ := Option.map_eq_some_iff.mp e2
    have e4 := isI_eq e3
    subst e4
    exact h _ e1 σ H _ E fun v H' s r => ⟨i, RpW.int (.st r), k H' s⟩
theorem RpA.cut {K : Fr_} {H : Hp} {vs : List V} {ds : List D} (r : RpA K H vs ds) (lo hi : Option Int) : RpA K H (cutV vs lo hi) ((ds.drop (HT.sIx ds.length 0 lo)).take (HT.sIx ds.length ds.length hi - HT.sIx ds.length 0 lo)) := by
  unfold cutV
  rw [r.length]
  exact (r.drop _).take _
/-- the items of ds[lo:hi] -/
def cutD {α : Type} (ds : List α) (lo hi : Option Int) : List α := (ds.drop (HT.sIx ds.length 0 lo)).take (HT.sIx ds.length ds.length hi - HT.sIx ds.length 0 lo)
def dSlT (lo hi : Option Int) : D → Option D
  | .tuple ds => some (.tuple (cutD ds lo hi))
  | _ => none
def slO (g : Option Int → Option Int → D → Option D) (m : Option D) (lo hi : Option (Option Int)) : Option D := m.bind fun x => lo.bind fun l => hi.bind fun h => g l h x
theorem cutD_whole {α : Type} {ds : List α} {lo hi : Option Int} (h : HT.sIx ds.length 0 lo = 0 ∧ HT.sIx ds.length ds.length hi = ds.length) : cutD ds lo hi = ds := by
  unfold cutD
  rw [h.1, h.2]
  simp
theorem de_slT {a : Expr} {lo hi : Option Expr} {ma : Option D} {ml mh : Option (Option Int)} {pos p2 : Pos} (ha : DE X c Γ a ma) (hl : DP X c Γ lo ml) (hh : DP X c Γ hi mh) : DE X c Γ (.Subscript a (.Slice lo hi none p2) pos) (slO dSlT ma ml mh) := fun d hd σ H Q E k => by
  obtain ⟨x, e1, e2⟩ := Option.bind_eq_some_iff.mp hd
  obtain ⟨l, e3, e4⟩ := Option.bind_eq_some_iff.mp e2
  obtain ⟨h, e5, e6⟩ := Option.bind_eq_some_iff.mp e4
  unfold dSlT at e6
  split at e6
  · cases e6
    refine sE_of (pe_slice sl_tupA (pe_s a) (po_s lo) (po_s hi)) ?_
    refine ha _ e1 σ H _ E fun v H1 s1 r1 => hl.run e3 (E.same s1) fun H2 s2 => hh.run e5 ((E.same s1).same s2) fun H3 s3 => ?_
    obtain ⟨b, xs, rfl, hq, r⟩ := RpW.tuple (.st r1)
    have m23 : Mono H1 H3 := .of_same (s2.trans s3)
    have r' := r.mono m23
    refine ⟨b, xs, rfl, m23.sqT hq, fun hw => ?_, fun hw p hp => ?_⟩
    · rw [r.length] at hw
      exact k _ H3 (s1.trans (s2.trans s3)) (by
        rw [cutD_whole hw]
        exact .tup (m23.sqT hq) r')
    · exact k _ _ ((s1.trans (s2.trans s3)).trans (Same.new hp)) (.tup (SqT.of upd_same) ((r'.cut l h).mono (.of_same (Same.new hp))))
  · cases e6
theorem df_slL {a : Expr} {lo hi : Option Expr} {ma : Option D} {ml mh : Option (Option Int)} {pos p2 : Pos} (ha : DW X c Γ a ma) (hl : DP X c Γ lo ml) (hh : DP X c Γ hi mh) : DF X c Γ (.Subscript a (.Slice lo hi none p2) pos)
    (ma.bind fun x => ml.bind fun l => mh.bind fun h => match x with | .list ds => some (cutD ds l h) | _ => none) := fun d hd σ H Q E k => by
  obtain ⟨x, e1, e2⟩ := Option.bind_eq_some_iff.mp hd
  obtain ⟨l, e3, e4⟩ := Option.bind_eq_some_iff.mp e2
  obtain ⟨h, e5, e6⟩ := Option.bind_eq_some_iff.mp e4
  split at e6
  · cases e6
    refine sE_of (pe_slice sl_list (pe_s a) (po_s lo) (po_s hi)) ?_
    refine ha _ e1 σ H _ E fun v H1 s1 r1 => hl.run e3 (E.same s1) fun H2 s2 => hh.run e5 ((E.same s1).same s2) fun H3 s3 => ?_
    obtain ⟨b, xs, rfl, hq, r⟩ := (r1.same (s2.trans s3)).list
    refine ⟨b, xs, rfl, hq, fun p hp => ?_⟩
    exact k _ _ _ ((s1.trans (s2.trans s3)).free hp) ((s1.trans (s2.trans s3)).trans (Same.new hp)) upd_same ((r.cut l h).mono (.of_same (Same.new hp)))
  · cases e6
/-! built-in calls by values -/
def CallD (X : Cx) (f : Value) (g : List D → Option D) : Prop := CallR X f fun vs H Q => ∃ ds z, RpWA X.K H vs ds ∧ g ds = some z ∧ ∀ w H', Same H H' → Rp X.K H' w z → Q w H'
def CallF (X : Cx) (f : Value) (g : List D → Option (List D)) : Prop := CallR X f fun vs H Q => ∃ ds z, RpWA X.K H vs ds ∧ g ds = some z ∧ ∀ a H' xs, H a = none → Same H H' → H' a = some (.lst xs) → RpA X.K H' xs z → Q (.ref a) H'
theorem de_callB {x : Str} {id : String} {g : List D → Option D} {e : Expr} {es : List Expr} {m : Option (List D)} {p pos : Pos} (hc : CallD X (.builtin id) g) (hm : X.mg x = none) (ha : DAw X c Γ (e :: es) m) (hg : Gl X x := by rfl) (hv : bootBuiltins x = some (.builtin id) := by decide +kernel)
    (hs : NoStar X (e :: es) := by exact ⟨rfl, rfl, rfl, rfl, trivial⟩) (hn : x ≠ "__name__" := by decide) (hdb : (x == ("__debug__" : Str)) = false := by decide) (hpl : (backTo pos (starEach es X.env)).any (·.1) = false := by rfl) : DE X c Γ (.Call (.Name x p) (e :: es) [] pos) (m.bind g) := fun d hd σ H Q E k => by
  obtain ⟨ds, e1, e2⟩ := Option.bind_eq_some_iff.mp hd
  refine sE_of (pe_callB hc hg hm hv (pa_s hs) hn hdb hs.1 hpl) ?_
  exact ha ds e1 σ H _ E fun vs H1 s1 r1 => ⟨ds, d, r1, e2, fun w H2 s2 r2 => k w H2 (s1.trans s2) r2⟩
theorem df_callB {x : Str} {id : String} {g : List D → Option (List D)} {e : Expr} {es : List Expr} {m : Option (List D)} {p pos : Pos} (hc : CallF X (.builtin id) g) (hm : X.mg x = none) (ha : DAw X c Γ (e :: es) m) (hg : Gl X x := by rfl) (hv : bootBuiltins x = some (.builtin id) := by decide +kernel)
    (hs : NoStar X (e :: es) := by exact ⟨rfl, rfl, rfl, rfl, trivial⟩) (hn : x ≠ "__name__" := by decide) (hdb : (x == ("__debug__" : Str)) = false := by decide) (hpl : (backTo pos (starEach es X.env)).any (·.1) = false := by rfl) : DF X c Γ (.Call (.Name x p) (e :: es) [] pos) (m.bind g) := fun d hd σ H Q E k => by
  obtain ⟨ds, e1, e2⟩ := Option.bind_eq_some_iff.mp hd
  refine sE_of (pe_callB hc hg hm hv (pa_s hs) hn hdb hs.1 hpl) ?_
  exact ha ds e1 σ H _ E fun vs H1 s1 r1 => ⟨ds, d, r1, e2, fun a H2 xs hn s2 h2 r2 => k a H2 xs (s1.free hn) (s1.trans s2) h2 r2⟩
theorem de_callT {x : Str} {id : String} {g : List D → Option D} {e : Expr} {es : List Expr} {m : Option (List D)} {p pos : Pos} (hc : CallD X (.type id) g) (hm : X.mg x = none) (ha : DAw X c Γ (e :: es) m) (hg : Gl X x := by rfl) (hv : bootBuiltins x = some (.type id) := by decide +kernel)
    (hs : NoStar X (e :: es) := by exact ⟨rfl, rfl, rfl, rfl, trivial⟩) (hn : x ≠ "__name__" := by decide) (hdb : (x == ("__debug__" : Str)) = false := by decide) (hpl : (backTo pos (starEach es X.env)).any (·.1) = false := by rfl) : DE X c Γ (.Call (.Name x p) (e :: es) [] pos) (m.bind g) := fun d hd σ H Q E k => by
  obtain ⟨ds, e1, e2⟩ := Option.bind_eq_some_iff.mp hd
  refine sE_of (pe_callTy hc hg hm hv (pa_s hs) hn hdb hs.1 hpl) ?_
  exact ha ds e1 σ H _ E fun vs H1 s1 r1 => ⟨ds, d, r1, e2, fun w H2 s2 r2 => k w H2 (s1.trans s2) r2⟩
theorem df_callT {x : Str} {id : String} {g : List D → Option (List D)} {e : Expr} {es : List Expr} {m : Option (List D)} {p pos : Pos} (hc : CallF X (.type id) g) (hm : X.mg x = none) (ha : DAw X c Γ (e :: es) m) (hg : Gl X x := by rfl) (hv : bootBuiltins x = some (.type id) := by decide +kernel)
    (hs : NoStar X (e :: es) := by exact ⟨rfl, rfl, rfl, rfl, trivial⟩) (hn : x ≠ "__name__" := by decide) (hdb : (x == ("__debug__" : Str)) = false := by decide) (hpl : (backTo pos (starEach es X.env)).any (·.1) = false := by rfl) : DF X c Γ (.Call (.Name x p) (e :: es) [] pos) (m.bind g) := fun d hd σ H Q E k => by
  obtain ⟨ds, e1, e2⟩ := Option.bind_eq_some_iff.mp hd
  refine sE_of (pe_callTy hc hg hm hv (pa_s hs) hn hdb hs.1 hpl) ?_
  exact ha ds e1 σ H _ E fun vs H1 s1 r1 => ⟨ds, d, r1, e2, fun a H2 xs hn s2 h2 r2 => k a H2 xs (s1.free hn) (s1.trans s2) h2 r2⟩
end
end DL

set_option Elab.async false
set_option linter.all false
set_option maxRecDepth 100000
set_option maxHeartbeats 2000000
set_option autoImplicit false
namespace DL
open PySem PySem.Spec PyProof.Rows L2
/-- a truth that nothing reckons out (large numbers on the way) -/
noncomputable def cl (p : Prop) : Bool := @decide p (Classical.propDecidable p)
theorem cl_iff {p : Prop} : cl p = true ↔ p := by
  unfold cl
  exact @decide_eq_true_iff p (Classical.propDecidable p)
/-- an int of at most 1,000 bits -/
noncomputable def fitsM (a : Int) : Bool := cl (a.natAbs < 2 ^ 1000)
def dAdd : D → D → Option D
  | .int a, .int b => some (.int (a + b))
  | .str a, .str b => if a.length + b.length ≤ sizeLine then some (.str (a ++ b)) else none
  | .tuple a, .tuple b => if a.length + b.length ≤ sizeLine then some (.tuple (a ++ b)) else none
  | _, _ => none
def dSub : D → D → Option D
  | .int a, .int b => some (.int (a - b))
  | _, _ => none
noncomputable def dMul : D → D → Option D
  | .int a, .int b => if fitsM a && fitsM b then some (.int (a * b)) else none
  | _, _ => none
noncomputable def dFdiv : D → D → Option D
  | .int a, .int b => if decide (0 < b) && fitsM b then some (.int (a / b)) else none
  | _, _ => none
def dMod : D → D → Option D
  | .int a, .int b => if 0 < b then some (.int (a % b)) else none
  | _, _ => none
noncomputable def dPow : D → D → Option D
  | .int a, .int b => if (cl (0 ≤ b) && cl (b ≤ 1000)) && fitsM a then some (.int (a ^ b.toNat)) else none
  | _, _ => none
def dNeg : D → Option D
  | .int a => some (.int (-a))
  | _ => none
/-- two scalars of one kind -/
def scalD : D → D → Bool
  | .int _, .int _ => true
  | .str _, .str _ => true
  | .bool _, .bool _ => true
  | _, _ => false
def dEq (a b : D) : Option D := if scalD a b || (SeqAt.shaped a && SeqAt.shaped b) then some (.bool (PyData.eqv a b)) else none
def dNe (a b : D) : Option D := if scalD a b || (SeqAt.shaped a && SeqAt.shaped b) then some (.bool (!PyData.eqv a b)) else none
/-- a list of intsD -/
def intsD : List D → Option (List Int)
  | [] => some []
  | .int i :: r => (intsD r).map (i :: ·)
  | _ :: _ => none
theorem ints_eq : ∀ {ds : List D} {ns : List Int}, intsD ds = some ns → ds = ns.map .int
  | [], _, h => by cases h; rfl
  | .int i :: r, ns, h => by
    obtain ⟨z, e, rfl⟩ := Option.map_eq_some_iff.mp h
    rw [ints_eq e]
    rfl
  | .none :: _, _, h => by cases h
  | .bool _ :: _, _, h => by cases h
  | .str _ :: _, _, h => by cases h
  | .list _ :: _, _, h => by cases h
  | .tuple _ :: _, _, h => by cases h
  | .dict _ :: _, _, h => by cases h
theorem ints_map (ns : List Int) : intsD (ns.map .int) = some ns := by
  induction ns with
  | nil => rfl
  | cons n r ih => show (intsD (r.map .int)).map (n :: ·) = _; rw [ih]; rfl
theorem RpA.intsD {K : Fr_} {H : Hp} : ∀ {vs : List V} {ns : List Int}, RpA K H vs (ns.map .int) → vs = ns.map V.int
  | _, [], .nil => rfl
  | _, _ :: _, .cons h r => by
    cases h
    rw [RpA.intsD r]
    rfl
theorem RpA.ofInts {K : Fr_} {H : Hp} : ∀ (ns : List Int), RpA K H (ns.map V.int) (ns.map .int)
  | [] => .nil
  | n :: r => .cons (.int n) (RpA.ofInts r)
def isN : D → Bool
  | .none => true
  | _ => false
/-- the two can be compared -/
def ordOk (a b : D) : Bool := PySem.W.alike a b && (!isN a && (decide (a.depth ≤ 64)))
def dLt (a b : D) : Option D := if ordOk a b then some (.bool (PySem.W.dataLt a b)) else none
def dLe (a b : D) : Option D := if ordOk a b then some (.bool (!PySem.W.dataLt b a)) else none
def dGt (a b : D) : Option D := if ordOk a b then some (.bool (PySem.W.dataLt b a)) else none
def dGe (a b : D) : Option D := if ordOk a b then some (.bool (!PySem.W.dataLt a b)) else none
/-- x is None, x is True -/
def dIs : D → D → Option D
  | x, .none => some (.bool (isN x))
  | .bool a, .bool b => some (.bool (decide (a = b)))
  | _, _ => none
def dIsNot : D → D → Option D
  | x, .none => some (.bool (!isN x))
  | .bool a, .bool b => some (.bool (!decide (a = b)))
  | _, _ => none
/-- what is flat -/
def flatD : D → Bool
  | .none => true
  | .bool _ => true
  | .int _ => true
  | .str _ => true
  | _ => false
def dIn : D → D → Option D
  | x, .list ds => if SeqAt.shaped x && SeqAt.shaped (.list ds) then some (.bool (ds.any fun z => PyData.eqv z x)) else none
  | x, .tuple ds => if flatD x && ds.all flatD then some (.bool (ds.any fun z => PyData.eqv z x)) else none
  | .str x, .str y => if x.length = 1 then some (.bool (y.cps.toList.contains (x.cps.getD 0 0))) else none
  | _, _ => none
def dNotIn (x y : D) : Option D := (dIn x y).bind isB |>.map fun b => .bool (!b)
section
variable {X : Cx}
theorem fitsM_lt {a : Int} (h : fitsM a = true) : a.natAbs < 2 ^ 1000 := cl_iff.mp h
theorem od_add : OpD X (binaryOp .Add) dAdd := OpR.imp (OpR.or op_add (OpR.or op_add_str op_catA)) fun v u H Q ⟨x, y, z, h1, h2, e, k⟩ => by
  unfold dAdd at e
  split at e
  · cases e
    exact .inl ⟨_, _, h1.int, h2.int, k _ H (Same.refl H) (.int _)⟩
  · split at e
    · rename_i hl
      cases e
      exact .inr (.inl ⟨_, _, h1.str, h2.str, hl, k _ H (Same.refl H) (.str _)⟩)
    · cases e
  · split at e
    · rename_i hl
      cases e
      obtain ⟨p, xs, rfl, hp, r1⟩ := h1.tuple
      obtain ⟨q, ys, rfl, hq, r2⟩ := h2.tuple
      refine .inr (.inr ⟨p, q, xs, ys, rfl, rfl, hp, hq, by rw [r1.length, r2.length]; exact hl, fun h0 => ?_, fun _ h0 => ?_, fun _ _ t ht => ?_⟩)
      · subst h0
        cases r1
        exact k _ H (Same.refl H) (.tup hq r2)
      · subst h0
        cases r2
        rw [List.append_nil] at k
        exact k _ H (Same.refl H) (.tup hp r1)
      · exact k _ _ (Same.new ht) (.tup (SqT.of upd_same) ((r1.append r2).mono (.of_same (Same.new ht))))
    · cases e
  · cases e
theorem od_sub : OpD X (binaryOp .Sub) dSub := OpR.imp op_sub fun v u H Q ⟨x, y, z, h1, h2, e, k⟩ => by
  unfold dSub at e
  split at e
  · cases e
    exact ⟨_, _, h1.int, h2.int, k _ H (Same.refl H) (.int _)⟩
  · cases e
theorem od_mul : OpD X (binaryOp .Mult) dMul := OpR.imp op_mulW fun v u H Q ⟨x, y, z, h1, h2, e, k⟩ => by
  unfold dMul at e
  split at e
  · split at e
    · rename_i hc
      cases e
      obtain ⟨c1, c2⟩ := Bool.and_eq_true_iff.mp hc
      exact ⟨_, _, h1.int, h2.int, wide_mul (fitsM_lt c1) (fitsM_lt c2) (by decide) (by decide) (by decide), k _ H (Same.refl H) (.int _)⟩
    · cases e
  · cases e
theorem od_fdiv : OpD X (binaryOp .FloorDiv) dFdiv := OpR.imp op_fdivW fun v u H Q ⟨x, y, z, h1, h2, e, k⟩ => by
  unfold dFdiv at e
  split at e
  · split at e
    · rename_i hc
      cases e
      obtain ⟨c1, c2⟩ := Bool.and_eq_true_iff.mp hc
      exact ⟨_, _, h1.int, h2.int, wide_div (of_decide_eq_true c1) (fitsM_lt c2) (by decide) (by decide), k _ H (Same.refl H) (.int _)⟩
    · cases e
  · cases e
theorem od_mod : OpD X (binaryOp .Mod) dMod := OpR.imp op_mod fun v u H Q ⟨x, y, z, h1, h2, e, k⟩ => by
  unfold dMod at e
  split at e
  · split at e
    · rename_i hc
      cases e
      exact ⟨_, _, h1.int, h2.int, hc, k _ H (Same.refl H) (.int _)⟩
    · cases e
  · cases e
theorem op_powW : OpR X (binaryOp .Pow) (rI (fun i j => 0 ≤ j ∧ (Builtin.Int.intBits i : Int) * j ≤ 2 ^ 27) fun i j => .int (i ^ j.toNat)) := opI fun _ _ _ _ _ _ _ hc q => pow_int hc.1 hc.2 q
theorem od_pow : OpD X (binaryOp .Pow) dPow := OpR.imp op_powW fun v u H Q ⟨x, y, z, h1, h2, e, k⟩ => by
  unfold dPow at e
  split at e
  · split at e
    · rename_i a b hc
      cases e
      obtain ⟨c0, c3⟩ := Bool.and_eq_true_iff.mp hc
      obtain ⟨c1, c2⟩ := Bool.and_eq_true_iff.mp c0
      refine ⟨_, _, h1.int, h2.int, ⟨cl_iff.mp c1, ?_⟩, k _ H (Same.refl H) (.int _)⟩
      have hb : Builtin.Int.intBits a ≤ 1001 := by
        have h3 := PySem.Flt.log2_lt_of (by decide) (fitsM_lt c3)
        unfold Builtin.Int.intBits
        split <;> omega
      have h4 : (Builtin.Int.intBits a : Int) * b ≤ 1001 * 1000 := Int.mul_le_mul (by omega) (cl_iff.mp c2) (cl_iff.mp c1) (by decide)
      omega
    · cases e
  · cases e
def UnD (X : Cx) (f : Value → Sem Value) (g : D → Option D) : Prop := UnR X f fun v H Q => ∃ x z, RpW X.K H v x ∧ g x = some z ∧ ∀ w H', Same H H' → Rp X.K H' w z → Q w H'
theorem ud_neg : UnD X (unaryOp .USub) dNeg := UnR.imp un_neg fun v H Q ⟨x, z, h1, e, k⟩ => by
  unfold dNeg at e
  split at e
  · cases e
    exact ⟨_, h1.int, k _ H (Same.refl H) (.int _)⟩
  · cases e
theorem de_un {c : FC} {Γ : Env_} {op : UnaryOp} {g : D → Option D} {a : Expr} {ma : Option D} {pos : Pos} (ho : UnD X (unaryOp op) g) (ha : DE X c Γ a ma) : DE X c Γ (.UnaryOp op a pos) (ma.bind g) := fun d hd σ H Q E k => by
  obtain ⟨x, e1, e2⟩ := Option.bind_eq_some_iff.mp hd
  refine sE_of (pe_un ho (pe_s a)) ?_
  exact ha x e1 σ H _ E fun v H1 s1 r1 => ⟨x, d, .st r1, e2, fun w H3 s3 r3 => k w H3 (s1.trans s3) r3⟩
theorem scal_of {K : Fr_} {H : Hp} {v u : V} {a b : D} (h1 : RpW K H v a) (h2 : RpW K H u b) (h : scalD a b = true) : scal v u = true ∧ decide (v = u) = PyData.eqv a b := by
  unfold scalD at h
  split at h
  · have e1 := h1.int
    have e2 := h2.int
    subst e1 e2
    exact ⟨rfl, by rw [dec_int]; simp [PyData.eqv]⟩
  · have e1 := h1.str
    have e2 := h2.str
    subst e1 e2
    exact ⟨rfl, by rw [dec_str]; simp [PyData.eqv]⟩
  · have e1 := h1.bool
    have e2 := h2.bool
    subst e1 e2
    exact ⟨rfl, by rw [dec_bl]; simp [PyData.eqv]⟩
  · cases h
theorem od_eq (hu : X.A.units + 64 < cLine) : OpD X (compareOp .Eq) dEq := OpR.imp (OpR.or op_eq (op_eqD hu)) fun v u H Q ⟨x, y, z, h1, h2, e, k⟩ => by
  unfold dEq at e
  split at e
  · rename_i hc
    cases e
    cases hs : scalD x y with
    | true =>
      obtain ⟨g1, g2⟩ := scal_of h1 h2 hs
      exact .inl ⟨g1, by rw [g2]; exact k _ H (Same.refl H) (.bl _)⟩
    | false =>
      rw [hs, Bool.false_or] at hc
      obtain ⟨c1, c2⟩ := Bool.and_eq_true_iff.mp hc
      exact .inr ⟨x, y, h1.dp, h2.dp, c1, c2, k _ H (Same.refl H) (.bl _)⟩
  · cases e
theorem od_ne (hu : X.A.units + 64 < cLine) : OpD X (compareOp .NotEq) dNe := OpR.imp (OpR.or op_ne (op_neD hu)) fun v u H Q ⟨x, y, z, h1, h2, e, k⟩ => by
  unfold dNe at e
  split at e
  · rename_i hc
    cases e
    cases hs : scalD x y with
    | true =>
      obtain ⟨g1, g2⟩ := scal_of h1 h2 hs
      exact .inl ⟨g1, by rw [g2]; exact k _ H (Same.refl H) (.bl _)⟩
    | false =>
      rw [hs, Bool.false_or] at hc
      obtain ⟨c1, c2⟩ := Bool.and_eq_true_iff.mp hc
      exact .inr ⟨x, y, h1.dp, h2.dp, c1, c2, k _ H (Same.refl H) (.bl _)⟩
  · cases e
theorem isN_ne {d : D} (h : isN d = false) : d ≠ .none := fun e => by
  subst e
  cases h
theorem ordOk_iff {a b : D} (h : ordOk a b = true) : PySem.W.alike a b = true ∧ a ≠ .none ∧ a.depth ≤ 64 := by
  obtain ⟨h1, h2⟩ := Bool.and_eq_true_iff.mp h
  obtain ⟨h3, h4⟩ := Bool.and_eq_true_iff.mp h2
  exact ⟨h1, isN_ne (by simpa using h3), of_decide_eq_true h4⟩
theorem od_ord {op : CmpOp} {g : D → D → Bool} (hu : X.A.units + 64 < cLine)
    (hg : ∀ {s : Shared} {a b : Value} {da db : PyData} {as bs : List Addr} {Q : Value → Shared → Prop}, Reads s.heap a da as → Reads s.heap b db bs → PySem.W.alike da db = true → da ≠ .none → X.A.units + min da.depth db.depth < cLine → Q (.bool (g da db)) s → wpAny (model X.prog X.w) X.A (compareOp op a b) Q X.xe s) :
    OpD X (compareOp op) fun a b => if ordOk a b then some (.bool (g a b)) else none := by
  intro pins s σ H x y v u Q I rx ry ⟨dx, dy, z, h1, h2, e0, k⟩
  have e : (if ordOk dx dy then some (PyData.bool (g dx dy)) else none) = some z := e0
  split at e
  · rename_i hc
    cases e
    obtain ⟨c1, c2, c3⟩ := ordOk_iff hc
    obtain ⟨as, r1⟩ := Dp.reads I dx x v h1.dp rx
    obtain ⟨bs, r2⟩ := Dp.reads I dy y u h2.dp ry
    exact hg r1 r2 c1 c2 (by omega) ⟨.bl _, H, I, rfl, k _ H (Same.refl H) (.bl _)⟩
  · cases e
theorem od_lt (hu : X.A.units + 64 < cLine) : OpD X (compareOp .Lt) dLt := od_ord (g := fun a b => PySem.W.dataLt a b) hu PySem.W.lt_data
theorem od_le (hu : X.A.units + 64 < cLine) : OpD X (compareOp .LtE) dLe := od_ord (g := fun a b => !PySem.W.dataLt b a) hu PySem.W.le_data
theorem od_gt (hu : X.A.units + 64 < cLine) : OpD X (compareOp .Gt) dGt := od_ord (g := fun a b => PySem.W.dataLt b a) hu PySem.W.gt_data
theorem od_ge (hu : X.A.units + 64 < cLine) : OpD X (compareOp .GtE) dGe := od_ord (g := fun a b => !PySem.W.dataLt a b) hu PySem.W.ge_data
theorem RpW.isN {K : Fr_} {H : Hp} {v : V} {d : D} (h : RpW K H v d) : decide (v = .non) = DL.isN d := by
  cases h with
  | st h => cases h <;> rfl
  | ow h r => rfl
theorem od_is : OpD X (compareOp .Is) dIs := OpR.imp (OpR.or op_isN op_isBl) fun v u H Q ⟨x, y, z, h1, h2, e, k⟩ => by
  unfold dIs at e
  split at e
  · cases e
    refine .inl ⟨h2.none_, ?_⟩
    rw [h1.isN]
    exact k _ H (Same.refl H) (.bl _)
  · cases e
    exact .inr ⟨_, _, h1.bool, h2.bool, k _ H (Same.refl H) (.bl _)⟩
  · cases e
theorem od_isnot : OpD X (compareOp .IsNot) dIsNot := OpR.imp (OpR.or op_notN op_notBl) fun v u H Q ⟨x, y, z, h1, h2, e, k⟩ => by
  unfold dIsNot at e
  split at e
  · cases e
    refine .inl ⟨h2.none_, ?_⟩
    rw [h1.isN]
    exact k _ H (Same.refl H) (.bl _)
  · cases e
    exact .inr ⟨_, _, h1.bool, h2.bool, k _ H (Same.refl H) (.bl _)⟩
  · cases e
theorem flat_rp {K : Fr_} {H : Hp} {v : V} {d : D} (h : Rp K H v d) (f : flatD d = true) : flatV v = true := by
  cases h <;> first | rfl | cases f
theorem eqV_eqv {K : Fr_} {H : Hp} {v u : V} {d e : D} (h : Rp K H v d) (h' : Rp K H u e) (f : flatD d = true) (f' : flatD e = true) : eqV v u = PyData.eqv d e := by
  cases h <;> first
    | (cases f; done)
    | (cases h' <;> first
        | (cases f'; done)
        | rfl
        | (simp [eqV, PyData.eqv, b2i] <;> done)
        | (rename_i a b; cases a <;> cases b <;> rfl)
        | (rename_i a b; cases a <;> simp [eqV, PyData.eqv, b2i])
        | (rename_i a b; cases b <;> simp [eqV, PyData.eqv, b2i]))
theorem RpA.flat {K : Fr_} {H : Hp} : ∀ {vs : List V} {ds : List D}, RpA K H vs ds → ds.all flatD = true → vs.all flatV = true
  | _, _, .nil, _ => rfl
  | _, _, .cons h r, f => by
    rw [List.all_cons, Bool.and_eq_true] at f ⊢
    exact ⟨flat_rp h f.1, RpA.flat r f.2⟩
theorem RpA.inV {K : Fr_} {H : Hp} {v : V} {d : D} (h : Rp K H v d) (f : flatD d = true) : ∀ {vs : List V} {ds : List D}, RpA K H vs ds → ds.all flatD = true → L2.inV v vs = ds.any fun z => PyData.eqv z d
  | _, _, .nil, _ => rfl
  | _, _, .cons h' r, g => by
    rw [List.all_cons, Bool.and_eq_true] at g
    have e2 := RpA.inV h f r g.2
    unfold L2.inV at e2 ⊢
    rw [List.any_cons, List.any_cons, eqV_eqv h' h g.1 f, e2]
/-! in, not in -/
theorem one_sign {x : Str} (h : x.length = 1) : x = ⟨#[x.cps.getD 0 0]⟩ := by
  obtain ⟨⟨l⟩⟩ := x
  have h' : l.length = 1 := h
  match l, h' with
  | [a], _ => rfl
theorem RpW.listD {K : Fr_} {H : Hp} {v : V} {ds : List D} (h : RpW K H v (.list ds)) : Dp K H v (.list ds) := h.dp
theorem od_in (hu : X.A.units + 65 < cLine) : OpD X (compareOp .In) dIn := OpR.imp (OpR.or op_in_seq (OpR.or (op_inD hu) op_in_sign)) fun v u H Q ⟨x, y, z, h1, h2, e, k⟩ => by
  unfold dIn at e
  split at e
  · split at e
    · rename_i hc
      cases e
      obtain ⟨c1, c2⟩ := Bool.and_eq_true_iff.mp hc
      exact .inr (.inl ⟨_, _, h1.dp, h2.dp, c1, c2, k _ H (Same.refl H) (.bl _)⟩)
    · cases e
  · split at e
    · rename_i hc
      cases e
      obtain ⟨c1, c2⟩ := Bool.and_eq_true_iff.mp hc
      cases h1 with
      | ow h r => cases c1
      | st h1 =>
        obtain ⟨p, xs, rfl, hp, r⟩ := h2.tuple
        refine .inl ⟨p, xs, rfl, .inr hp, flat_rp h1 c1, r.flat c2, ?_⟩
        rw [if_neg Bool.false_ne_true, RpA.inV h1 c1 r c2]
        exact k _ H (Same.refl H) (.bl _)
    · cases e
  · split at e
    · rename_i hc
      cases e
      refine .inr (.inr ⟨_, _, h1.str.trans (congrArg V.str (one_sign hc)), h2.str, ?_⟩)
      rw [show decide (_ ∈ _) = List.contains _ _ from (List.elem_eq_mem _ _).symm]
      exact k _ H (Same.refl H) (.bl _)
    · cases e
  · cases e
theorem od_notin (hu : X.A.units + 65 < cLine) : OpD X (compareOp .NotIn) dNotIn := OpR.imp (OpR.or op_notIn_seq (OpR.or (op_notInD hu) op_notIn_sign)) fun v u H Q ⟨x, y, z, h1, h2, e0, k⟩ => by
  obtain ⟨b, e1, rfl⟩ := Option.map_eq_some_iff.mp e0
  obtain ⟨z', e, e3⟩ := Option.bind_eq_some_iff.mp e1
  have ez := isB_eq e3
  subst ez
  unfold dIn at e
  split at e
  · split at e
    · rename_i hc
      cases e
      obtain ⟨c1, c2⟩ := Bool.and_eq_true_iff.mp hc
      exact .inr (.inl ⟨_, _, h1.dp, h2.dp, c1, c2, k _ H (Same.refl H) (.bl _)⟩)
    · cases e
  · split at e
    · rename_i hc
      cases e
      obtain ⟨c1, c2⟩ := Bool.and_eq_true_iff.mp hc
      cases h1 with
      | ow h r => cases c1
      | st h1 =>
        obtain ⟨p, xs, rfl, hp, r⟩ := h2.tuple
        refine .inl ⟨p, xs, rfl, .inr hp, flat_rp h1 c1, r.flat c2, ?_⟩
        rw [if_pos rfl, RpA.inV h1 c1 r c2]
        exact k _ H (Same.refl H) (.bl _)
    · cases e
  · split at e
    · rename_i hc
      cases e
      refine .inr (.inr ⟨_, _, h1.str.trans (congrArg V.str (one_sign hc)), h2.str, ?_⟩)
      rw [show decide (_ ∈ _) = List.contains _ _ from (List.elem_eq_mem _ _).symm]
      exact k _ H (Same.refl H) (.bl _)
    · cases e
  · cases e
end
end DL

set_option Elab.async false
set_option linter.all false
set_option maxRecDepth 100000
set_option maxHeartbeats 2000000
set_option autoImplicit false
namespace DL
open PySem PySem.Spec PyProof.Rows L2
theorem RpWA.one {K : Fr_} {H : Hp} {vs : List V} {d : D} (h : RpWA K H vs [d]) : ∃ v, vs = [v] ∧ RpW K H v d := by
  cases h with | cons h r => cases r; exact ⟨_, rfl, h⟩
theorem RpWA.two {K : Fr_} {H : Hp} {vs : List V} {d e : D} (h : RpWA K H vs [d, e]) : ∃ v u, vs = [v, u] ∧ RpW K H v d ∧ RpW K H u e := by
  cases h with | cons h r => cases r with | cons h2 r => cases r; exact ⟨_, _, rfl, h, h2⟩
theorem RpWA.three {K : Fr_} {H : Hp} {vs : List V} {d e f : D} (h : RpWA K H vs [d, e, f]) : ∃ v u w, vs = [v, u, w] ∧ RpW K H v d ∧ RpW K H u e ∧ RpW K H w f := by
  cases h with | cons h r => cases r with | cons h2 r => cases r with | cons h3 r => cases r; exact ⟨_, _, _, rfl, h, h2, h3⟩
/-! len -/
def dLen : List D → Option D
  | [.list ds] => some (.int (ds.length : Int))
  | [.tuple ds] => some (.int (ds.length : Int))
  | [.str s] => if s.length ≤ sizeLine then some (.int (s.length : Int)) else none
  | _ => none
/-! max, min -/
/-- all can be compared -/
def allAlike (ds : List D) : Bool := ds.all fun x => !isN x && (decide (x.depth ≤ 64) && ds.all fun y => PySem.W.alike x y)
def dMax : List D → Option D
  | [.int a, .int b] => some (.int (max a b))
  | [.int a, .int b, .int c] => some (.int (max (max a b) c))
  | [.list (x :: xs)] => if allAlike (x :: xs) then some (PySem.W.maxD x xs) else none
  | [.tuple (x :: xs)] => if allAlike (x :: xs) then some (PySem.W.maxD x xs) else none
  | _ => none
def dMin : List D → Option D
  | [.int a, .int b] => some (.int (min a b))
  | [.int a, .int b, .int c] => some (.int (min (min a b) c))
  | [.list (x :: xs)] => if allAlike (x :: xs) then some (PySem.W.minD x xs) else none
  | [.tuple (x :: xs)] => if allAlike (x :: xs) then some (PySem.W.minD x xs) else none
  | _ => none
def dSum : List D → Option D
  | [.list ds] => (intsD ds).map fun ns => .int ns.sum
  | _ => none
def boolsD : List D → Option (List Bool)
  | [] => some []
  | .bool i :: r => (boolsD r).map (i :: ·)
  | _ :: _ => none
theorem boolsD_eq : ∀ {ds : List D} {ns : List Bool}, boolsD ds = some ns → ds = ns.map .bool
  | [], _, h => by cases h; rfl
  | .bool i :: r, ns, h => by
    obtain ⟨z, e, rfl⟩ := Option.map_eq_some_iff.mp h
    rw [boolsD_eq e]
    rfl
  | .none :: _, _, h => by cases h
  | .int _ :: _, _, h => by cases h
  | .str _ :: _, _, h => by cases h
  | .list _ :: _, _, h => by cases h
  | .tuple _ :: _, _, h => by cases h
  | .dict _ :: _, _, h => by cases h
theorem boolsD_map (ns : List Bool) : boolsD (ns.map .bool) = some ns := by
  induction ns with
  | nil => rfl
  | cons n r ih => show (boolsD (r.map .bool)).map (n :: ·) = _; rw [ih]; rfl
theorem RpA.bools {K : Fr_} {H : Hp} : ∀ {vs : List V} {ns : List Bool}, RpA K H vs (ns.map .bool) → vs = ns.map V.bl
  | _, [], .nil => rfl
  | _, _ :: _, .cons h r => by
    cases h
    rw [RpA.bools r]
    rfl
def dAll : List D → Option D
  | [.list ds] => (boolsD ds).map fun ns => .bool (ns.all id)
  | _ => none
def dAny : List D → Option D
  | [.list ds] => (boolsD ds).map fun ns => .bool (ns.any id)
  | _ => none
def dAbs : List D → Option D
  | [.int i] => some (.int (if i < 0 then -i else i))
  | _ => none
def dInt : List D → Option D
  | [.int i] => some (.int i)
  | [.bool b] => some (.int (if b then 1 else 0))
  | _ => none
def dStr : List D → Option D
  | [.int i] => if i.natAbs.log2 < 1920 then some (.str (toString i)) else none
  | [.str x] => some (.str x)
  | _ => none
def dTuple : List D → Option D
  | [.list ds] => some (.tuple ds)
  | [.tuple ds] => some (.tuple ds)
  | _ => none
def dList : List D → Option (List D)
  | [.list ds] => some ds
  | [.tuple ds] => some ds
  | _ => none
def sortOk (ds : List D) : Bool := decide (ds.length ≤ 100000) && (allAlike ds && ((ds.all fun d => match d with | .tuple (_ :: _) => true | _ => false) || ds.all fun d => match d with | .tuple _ => false | _ => true))
def sortedD (ds : List D) : List D := ds.mergeSort (PySem.W.dataLe false fun d => d)
def dSorted : List D → Option (List D)
  | [.list ds] => if sortOk ds then some (sortedD ds) else none
  | _ => none
def dRepr : List D → Option D
  | [d] => if d.showable && (decide (d.shown.length ≤ 1000000) && (!d.hasDict && decide (d.depth ≤ 64))) then some (.str d.shown) else none
  | _ => none
theorem allAlike_iff {ds : List D} (h : allAlike ds = true) : (∀ x ∈ ds, x ≠ .none ∧ x.depth ≤ 64) ∧ ∀ x ∈ ds, ∀ y ∈ ds, PySem.W.alike x y = true := by
  have h' : ∀ x ∈ ds, (!isN x && (decide (x.depth ≤ 64) && ds.all fun y => PySem.W.alike x y)) = true := List.all_eq_true.mp h
  refine ⟨fun x hx => ?_, fun x hx y hy => ?_⟩
  · obtain ⟨h1, h2⟩ := Bool.and_eq_true_iff.mp (h' x hx)
    obtain ⟨h3, h4⟩ := Bool.and_eq_true_iff.mp h2
    exact ⟨isN_ne (by simpa using h1), of_decide_eq_true h3⟩
  · obtain ⟨h1, h2⟩ := Bool.and_eq_true_iff.mp (h' x hx)
    obtain ⟨h3, h4⟩ := Bool.and_eq_true_iff.mp h2
    exact List.all_eq_true.mp h4 y hy
theorem depthAll_le : ∀ {ds : List D} {n : Nat}, (∀ x ∈ ds, x.depth ≤ n) → PyData.depthAll ds ≤ n
  | [], n, _ => Nat.zero_le _
  | d :: r, n, h => by
    rw [PyData.depthAll]
    exact Nat.max_le.mpr ⟨h d List.mem_cons_self, depthAll_le fun x hx => h x (List.mem_cons_of_mem _ hx)⟩
theorem foldl_mem {α : Type} (f : α → α → Bool) : ∀ (xs : List α) (x : α), xs.foldl (fun a y => if f a y then y else a) x ∈ x :: xs
  | [], x => List.mem_cons_self
  | y :: r, x => by
    show r.foldl _ (if f x y then y else x) ∈ _
    have h := foldl_mem f r (if f x y then y else x)
    rcases List.mem_cons.mp h with e | e
    · rw [e]
      split
      · exact List.mem_cons_of_mem _ List.mem_cons_self
      · exact List.mem_cons_self
    · exact List.mem_cons_of_mem _ (List.mem_cons_of_mem _ e)
theorem maxD_mem (x : D) (xs : List D) : PySem.W.maxD x xs ∈ x :: xs := foldl_mem (fun a y => PySem.W.dataLt a y) xs x
theorem minD_mem (x : D) (xs : List D) : PySem.W.minD x xs ∈ x :: xs := foldl_mem (fun a y => PySem.W.dataLt y a) xs x
section
variable {X : Cx}
theorem cd_len : CallD X (.builtin "len") dLen := CallR.imp (CallR.or call_len_seq call_len_str) fun vs H Q ⟨ds, z, h, e, k⟩ => by
  unfold dLen at e
  split at e
  · cases e
    obtain ⟨v, rfl, h1⟩ := h.one
    obtain ⟨p, xs, rfl, hp, r⟩ := h1.list
    exact .inl ⟨p, xs, rfl, .inl hp, by rw [r.length]; exact k _ H (Same.refl H) (.int _)⟩
  · cases e
    obtain ⟨v, rfl, h1⟩ := h.one
    obtain ⟨p, xs, rfl, hp, r⟩ := h1.tuple
    exact .inl ⟨p, xs, rfl, .inr hp, by rw [r.length]; exact k _ H (Same.refl H) (.int _)⟩
  · split at e
    · rename_i hl
      cases e
      obtain ⟨v, rfl, h1⟩ := h.one
      exact .inr ⟨_, congrArg (fun z => [z]) h1.str, hl, k _ H (Same.refl H) (.int _)⟩
    · cases e
  · cases e
theorem pick_data {pins : List (Addr × Obj)} {σ : St} {H : Hp} {s : Shared} {h' : Heap} {tk : Nat} {its : List Value} {xs : List V} {ds : List D} {i : Nat} {v : Value} {d : D} {bs : List Addr} (I : Inv X pins σ H s) (hk : ∀ b o, s.heap.get? b = some o → h'.get? b = some o) (rv : Vals xs its) (r : RpA X.K H xs ds)
    (hal : ∀ x ∈ ds, ∀ y ∈ ds, PySem.W.alike x y = true) (hm : d ∈ ds) (hv : its[i]? = some v) (hR : Reads h' v d bs) : ∃ w, RelV w v ∧ Rp X.K H w d ∧ Inv X pins σ H { s with heap := h', toks := tk } := by
  have I2 : Inv X pins σ H { s with heap := h', toks := tk } := I.kept (t' := tk) hk
  cases hx : xs[i]? with
  | none =>
    rw [rv.none_of hx] at hv
    cases hv
  | some w =>
    obtain ⟨u, hu, ru⟩ := rv.get hx
    rw [hv] at hu
    cases hu
    obtain ⟨d', hd', rd⟩ := r.get' hx
    obtain ⟨as, r2⟩ := Dp.reads I2 d' w v rd.dp ru
    have e : d' = d := PySem.W.alike_unique d' d v _ _ (hal d' (List.mem_of_getElem? hd') d hm) r2 hR
    subst e
    exact ⟨w, ru, rd, I2⟩
theorem nuMax_int (i j : Int) : nuMax2 (.int i) (.int j) = some (.int (max i j)) := by
  show some (if decide (i < j) = true then V.int j else V.int i) = _
  by_cases h : i < j
  · rw [if_pos (decide_eq_true h)]
    congr 2
    omega
  · rw [if_neg (by simpa using h)]
    congr 2
    omega
theorem nuMin_int (i j : Int) : nuMin2 (.int i) (.int j) = some (.int (min i j)) := by
  show some (if decide (j < i) = true then V.int j else V.int i) = _
  by_cases h : j < i
  · rw [if_pos (decide_eq_true h)]
    congr 2
    omega
  · rw [if_neg (by simpa using h)]
    congr 2
    omega
theorem cd_max (hc : X.calm = true) (hu : X.A.units + 100 < cLine) : CallD X (.builtin "max") dMax := by
  intro pins s σ H vs us Q I rs ⟨ds, z, h, e, k⟩
  unfold dMax at e
  split at e
  · cases e
    obtain ⟨v, u, rfl, h1, h2⟩ := h.two
    have e1 := h1.int
    have e2 := h2.int
    subst e1 e2
    exact call_max2Nu hc pins s σ H _ us Q I rs ⟨_, _, _, rfl, nuMax_int _ _, k _ H (Same.refl H) (.int _)⟩
  · cases e
    obtain ⟨v, u, w, rfl, h1, h2, h3⟩ := h.three
    have e1 := h1.int
    have e2 := h2.int
    have e3 := h3.int
    subst e1 e2 e3
    exact call_max3Nu hc pins s σ H _ us Q I rs ⟨_, _, _, _, rfl, (by
      unfold nuMax3
      rw [nuMax_int]
      exact nuMax_int _ _), k _ H (Same.refl H) (.int _)⟩
  · split at e
    · rename_i hal
      cases e
      obtain ⟨v, rfl, h1⟩ := h.one
      obtain ⟨p, xs, rfl, hp, r⟩ := h1.list
      obtain ⟨u, rfl, ru⟩ := vals1 rs
      cases ru
      obtain ⟨a1, a2⟩ := allAlike_iff hal
      obtain ⟨its, rv, pl, _⟩ := I.list hp
      obtain ⟨as, rr⟩ := Dp.readsAll I _ _ its r.dp rv
      refine PySem.W.max_list_data (I.ok.hd hc) pl.isList rr ⟨a2, fun x hx => (a1 x hx).1⟩ (by have := depthAll_le fun x hx => (a1 x hx).2; omega) fun i v h' tk bs hv hR hk => ?_
      obtain ⟨w, rw_, rd, I2⟩ := pick_data (tk := tk) I hk rv r a2 (maxD_mem _ _) (by simpa using hv) hR
      exact ⟨w, H, I2, rw_, k w H (Same.refl H) rd⟩
    · cases e
  · split at e
    · rename_i hal
      cases e
      obtain ⟨v, rfl, h1⟩ := h.one
      obtain ⟨p, xs, rfl, hp, r⟩ := h1.tuple
      obtain ⟨u, rfl, ru⟩ := vals1 rs
      cases ru
      obtain ⟨a1, a2⟩ := allAlike_iff hal
      obtain ⟨its, rv, pl, _⟩ := I.tuple hp
      obtain ⟨as, rr⟩ := Dp.readsAll I _ _ its r.dp rv
      refine PySem.W.max_tuple_data (I.ok.hd hc) (show s.heap.IsTuple p its.toArray from pl) rr ⟨a2, fun x hx => (a1 x hx).1⟩ (by have := depthAll_le fun x hx => (a1 x hx).2; omega) fun i v h' tk bs hv hR hk => ?_
      obtain ⟨w, rw_, rd, I2⟩ := pick_data (tk := tk) I hk rv r a2 (maxD_mem _ _) (by simpa using hv) hR
      exact ⟨w, H, I2, rw_, k w H (Same.refl H) rd⟩
    · cases e
  · cases e
theorem cd_min (hc : X.calm = true) (hu : X.A.units + 100 < cLine) : CallD X (.builtin "min") dMin := by
  intro pins s σ H vs us Q I rs ⟨ds, z, h, e, k⟩
  unfold dMin at e
  split at e
  · cases e
    obtain ⟨v, u, rfl, h1, h2⟩ := h.two
    have e1 := h1.int
    have e2 := h2.int
    subst e1 e2
    exact call_min2Nu hc pins s σ H _ us Q I rs ⟨_, _, _, rfl, nuMin_int _ _, k _ H (Same.refl H) (.int _)⟩
  · cases e
    obtain ⟨v, u, w, rfl, h1, h2, h3⟩ := h.three
    have e1 := h1.int
    have e2 := h2.int
    have e3 := h3.int
    subst e1 e2 e3
    exact call_min3Nu hc pins s σ H _ us Q I rs ⟨_, _, _, _, rfl, (by
      unfold nuMin3
      rw [nuMin_int]
      exact nuMin_int _ _), k _ H (Same.refl H) (.int _)⟩
  · split at e
    · rename_i hal
      cases e
      obtain ⟨v, rfl, h1⟩ := h.one
      obtain ⟨p, xs, rfl, hp, r⟩ := h1.list
      obtain ⟨u, rfl, ru⟩ := vals1 rs
      cases ru
      obtain ⟨a1, a2⟩ := allAlike_iff hal
      obtain ⟨its, rv, pl, _⟩ := I.list hp
      obtain ⟨as, rr⟩ := Dp.readsAll I _ _ its r.dp rv
      refine PySem.W.min_list_data (I.ok.hd hc) pl.isList rr ⟨a2, fun x hx => (a1 x hx).1⟩ (by have := depthAll_le fun x hx => (a1 x hx).2; omega) fun i v h' tk bs hv hR hk => ?_
      obtain ⟨w, rw_, rd, I2⟩ := pick_data (tk := tk) I hk rv r a2 (minD_mem _ _) (by simpa using hv) hR
      exact ⟨w, H, I2, rw_, k w H (Same.refl H) rd⟩
    · cases e
  · split at e
    · rename_i hal
      cases e
      obtain ⟨v, rfl, h1⟩ := h.one
      obtain ⟨p, xs, rfl, hp, r⟩ := h1.tuple
      obtain ⟨u, rfl, ru⟩ := vals1 rs
      cases ru
      obtain ⟨a1, a2⟩ := allAlike_iff hal
      obtain ⟨its, rv, pl, _⟩ := I.tuple hp
      obtain ⟨as, rr⟩ := Dp.readsAll I _ _ its r.dp rv
      refine PySem.W.min_tuple_data (I.ok.hd hc) (show s.heap.IsTuple p its.toArray from pl) rr ⟨a2, fun x hx => (a1 x hx).1⟩ (by have := depthAll_le fun x hx => (a1 x hx).2; omega) fun i v h' tk bs hv hR hk => ?_
      obtain ⟨w, rw_, rd, I2⟩ := pick_data (tk := tk) I hk rv r a2 (minD_mem _ _) (by simpa using hv) hR
      exact ⟨w, H, I2, rw_, k w H (Same.refl H) rd⟩
    · cases e
  · cases e
theorem cd_sum (hc : X.calm = true) : CallD X (.builtin "sum") dSum := CallR.imp (cr_sum hc) fun vs H Q ⟨ds, z, h, e, k⟩ => by
  unfold dSum at e
  split at e
  · obtain ⟨ns, e1, rfl⟩ := Option.map_eq_some_iff.mp e
    obtain ⟨v, rfl, h1⟩ := h.one
    obtain ⟨p, xs, rfl, hp, r⟩ := h1.list
    rw [ints_eq e1] at r
    rw [r.intsD] at hp
    exact ⟨p, ns, rfl, hp, k _ H (Same.refl H) (.int _)⟩
  · cases e
theorem cd_all (hc : X.calm = true) : CallD X (.builtin "all") dAll := CallR.imp (cr_all hc) fun vs H Q ⟨ds, z, h, e, k⟩ => by
  unfold dAll at e
  split at e
  · obtain ⟨ns, e1, rfl⟩ := Option.map_eq_some_iff.mp e
    obtain ⟨v, rfl, h1⟩ := h.one
    obtain ⟨p, xs, rfl, hp, r⟩ := h1.list
    rw [boolsD_eq e1] at r
    rw [r.bools] at hp
    exact ⟨p, ns, rfl, hp, k _ H (Same.refl H) (.bl _)⟩
  · cases e
theorem cd_any (hc : X.calm = true) : CallD X (.builtin "any") dAny := CallR.imp (cr_any hc) fun vs H Q ⟨ds, z, h, e, k⟩ => by
  unfold dAny at e
  split at e
  · obtain ⟨ns, e1, rfl⟩ := Option.map_eq_some_iff.mp e
    obtain ⟨v, rfl, h1⟩ := h.one
    obtain ⟨p, xs, rfl, hp, r⟩ := h1.list
    rw [boolsD_eq e1] at r
    rw [r.bools] at hp
    exact ⟨p, ns, rfl, hp, k _ H (Same.refl H) (.bl _)⟩
  · cases e
theorem cd_abs : CallD X (.builtin "abs") dAbs := CallR.imp call_abs fun vs H Q ⟨ds, z, h, e, k⟩ => by
  unfold dAbs at e
  split at e
  · cases e
    obtain ⟨v, rfl, h1⟩ := h.one
    exact ⟨_, congrArg (fun z => [z]) h1.int, k _ H (Same.refl H) (.int _)⟩
  · cases e
theorem cd_int : CallD X (.type "int") dInt := CallR.imp call_int1 fun vs H Q ⟨ds, z, h, e, k⟩ => by
  unfold dInt at e
  split at e
  · cases e
    obtain ⟨v, rfl, h1⟩ := h.one
    exact .inl ⟨_, congrArg (fun z => [z]) h1.int, k _ H (Same.refl H) (.int _)⟩
  · cases e
    obtain ⟨v, rfl, h1⟩ := h.one
    exact .inr ⟨_, congrArg (fun z => [z]) h1.bool, k _ H (Same.refl H) (.int _)⟩
  · cases e
theorem cd_str : CallD X (.type "str") dStr := CallR.imp (CallR.or call_str_int SkE.call_str_str) fun vs H Q ⟨ds, z, h, e, k⟩ => by
  unfold dStr at e
  split at e
  · split at e
    · rename_i hl
      cases e
      obtain ⟨v, rfl, h1⟩ := h.one
      exact .inl ⟨_, congrArg (fun z => [z]) h1.int, hl, k _ H (Same.refl H) (.str _)⟩
    · cases e
  · cases e
    obtain ⟨v, rfl, h1⟩ := h.one
    exact .inr ⟨_, congrArg (fun z => [z]) h1.str, k _ H (Same.refl H) (.str _)⟩
  · cases e
theorem cd_tuple : CallD X (.type "tuple") dTuple := CallR.imp call_tuple_of fun vs H Q ⟨ds, z, h, e, k⟩ => by
  unfold dTuple at e
  split at e
  · cases e
    obtain ⟨v, rfl, h1⟩ := h.one
    obtain ⟨p, xs, rfl, hp, r⟩ := h1.list
    exact ⟨p, xs, rfl, .inl ⟨hp, fun l hl => k _ _ (Same.new hl) (.tup (SqT.of upd_same) (r.mono (.of_same (Same.new hl))))⟩⟩
  · cases e
    obtain ⟨v, rfl, h1⟩ := h.one
    obtain ⟨p, xs, rfl, hp, r⟩ := h1.tuple
    exact ⟨p, xs, rfl, .inr ⟨hp, k _ H (Same.refl H) (.tup hp r)⟩⟩
  · cases e
theorem cf_list : CallF X (.type "list") dList := CallR.imp call_list_of fun vs H Q ⟨ds, z, h, e, k⟩ => by
  unfold dList at e
  split at e
  · cases e
    obtain ⟨v, rfl, h1⟩ := h.one
    obtain ⟨p, xs, rfl, hp, r⟩ := h1.list
    exact ⟨p, xs, rfl, .inl hp, fun l hl => k _ _ _ hl (Same.new hl) upd_same (r.mono (.of_same (Same.new hl)))⟩
  · cases e
    obtain ⟨v, rfl, h1⟩ := h.one
    obtain ⟨p, xs, rfl, hp, r⟩ := h1.tuple
    exact ⟨p, xs, rfl, .inr hp, fun l hl => k _ _ _ hl (Same.new hl) upd_same (r.mono (.of_same (Same.new hl)))⟩
  · cases e
end
end DL

set_option Elab.async false
set_option linter.all false
set_option maxRecDepth 100000
set_option maxHeartbeats 2000000
set_option autoImplicit false
namespace DL
open PySem PySem.Spec PyProof.Rows L2
section
variable {X : Cx} {c : FC} {T : Type} {G : T → Env_}
/-! ### the same where held lists change on the way -/
def liftX {α : Type} (m : T → Option α) : T → Option (α × T) := fun t => (m t).map fun d => (d, t)
theorem liftX_eq {α : Type} {m : T → Option α} {t t' : T} {d : α} (h : liftX m t = some (d, t')) : m t = some d ∧ t' = t := by
  obtain ⟨x, e1, e2⟩ := Option.map_eq_some_iff.mp h
  cases e2
  exact ⟨e1, rfl⟩
theorem dx_lift {e : Expr} {m : T → Option D} (h : ∀ t, DE X c (G t) e (m t)) : DX X c G e (liftX m) := fun t d t' hd σ H Q E k => by
  obtain ⟨e1, rfl⟩ := liftX_eq hd
  exact h _ d e1 σ H Q E fun v H' s r => k v H' (E.same s) (.of_same E s) r
theorem dxf_lift {e : Expr} {m : T → Option (List D)} (h : ∀ t, DF X c (G t) e (m t)) : DXF X c G e (liftX m) := fun t d t' hd σ H Q E k => by
  obtain ⟨e1, rfl⟩ := liftX_eq hd
  exact h _ d e1 σ H Q E fun a H' xs hn s ha r => k a H' xs hn (E.same s) (.of_same E s) ha r
theorem dxt_lift {e : Expr} {m : T → Option Bool} (h : ∀ t, DT X c (G t) e (m t)) : DXT X c G e (liftX m) := fun t d t' hd σ H Q E k => by
  obtain ⟨e1, rfl⟩ := liftX_eq hd
  exact h _ d e1 σ H Q E fun H' s => k H' (E.same s) (.of_same E s)
theorem dxa_lift {es : List Expr} {m : T → Option (List D)} (h : ∀ t, DA X c (G t) es (m t)) : DXA X c G es (liftX m) := fun t d t' hd σ H Q E k => by
  obtain ⟨e1, rfl⟩ := liftX_eq hd
  exact h _ d e1 σ H Q E fun v H' s r => k v H' (E.same s) (.of_same E s) r
theorem dxf_frz {e : Expr} {m : T → Option (List D × T)} (h : DXF X c G e m) : DX X c G e (fun t => (m t).map fun p => (.list p.1, p.2)) := fun t d t' hd σ H Q E k => by
  obtain ⟨⟨ds, t2⟩, e1, e2⟩ := Option.map_eq_some_iff.mp hd
  have e3 : d = .list ds := (congrArg Prod.fst e2).symm
  have e4 : t2 = t' := congrArg Prod.snd e2
  subst e3 e4
  refine sE_of (pe_frz (pe_s e)) ?_
  refine h t ds t2 e1 σ H _ E fun a H' xs hn E' s ha r => ⟨a, _, rfl, ha, trivial, fun o => ?_⟩
  have hno : ¬ Owns (G t2) σ a := fun q => E.notOwn hn (s.2 a q)
  have m' : Mono H' (upd H' a (.frz o (.lst xs))) := by
    refine ⟨fun b zs hb => ?_, fun b o' u hb => ?_⟩
    · rw [upd_ne (ne_of hb ha (by intro z; cases z))]
      exact hb
    · rw [upd_ne (ne_of hb ha (by intro z; cases z))]
      exact hb
  have keep : ∀ b u, H' b = some u → b ≠ a → upd H' a (.frz o (.lst xs)) b = some u := fun b u hb hne => by
    rw [upd_ne hne]
    exact hb
  have E'' : EnvOk X.K c σ (upd H' a (.frz o (.lst xs))) (G t2) := by
    refine ⟨fun i q hq => ?_, E'.apart, fun b u hb hm => keep b u (E'.pres b u hb hm) fun z => ?_, E'.new, E'.pins, E'.len⟩
    · have z := E'.cells i q hq
      cases q with
      | any => trivial
      | imm d =>
        obtain ⟨v, e1, r1⟩ := z
        exact ⟨v, e1, r1.mono m'⟩
      | own fs =>
        obtain ⟨b, zs, e1, hb, r1⟩ := z
        exact ⟨b, zs, e1, keep b _ hb fun q' => hno ⟨i, _, hq, rfl, q' ▸ e1⟩, r1.mono m'⟩
    · rw [z, E.fresh0 hn] at hb
      cases hb
  refine k _ _ E'' ⟨fun b u hb hw => keep b u (s.1 b u hb hw) fun z => ?_, s.2, fun b hb => ?_⟩ (.lst (.inl ⟨o, upd_same⟩) (r.mono m'))
  · rw [z, hn] at hb
    cases hb
  · by_cases e3 : b = a
    · rw [e3, upd_same]
      intro z
      cases z
    · rw [upd_ne e3]
      exact s.3 b hb
/-! arguments -/
def consX (m : T → Option (D × T)) (ms : T → Option (List D × T)) : T → Option (List D × T) := fun t => (m t).bind fun p => (ms p.2).map fun q => (p.1 :: q.1, q.2)
theorem dxa_nil : DXA X c G [] (fun t => some ([], t)) := fun t ds t' hd σ H Q E k => by
  cases hd
  exact k [] H E (.refl E) .nil
theorem dxa_cons {e : Expr} {es : List Expr} {m : T → Option (D × T)} {ms : T → Option (List D × T)} (h : DX X c G e m) (hs : DXA X c G es ms) : DXA X c G (e :: es) (consX m ms) := fun t ds t' hd σ H Q E k => by
  obtain ⟨⟨x, t1⟩, e1, e2⟩ := Option.bind_eq_some_iff.mp hd
  obtain ⟨⟨xs, t2⟩, e3, e4⟩ := Option.map_eq_some_iff.mp e2
  cases e4
  exact h t x t1 e1 σ H _ E fun v H1 E1 s1 r1 => hs t1 xs _ e3 σ H1 _ E1 fun vs H2 E2 s2 r2 => k _ _ E2 (s1.trans s2) (.cons (r1.mono (s2.mono E1)) r2)
/-! operators -/
def binX (g : D → D → Option D) (a b : T → Option (D × T)) : T → Option (D × T) := fun t => (a t).bind fun p => (b p.2).bind fun q => (g p.1 q.1).map fun z => (z, q.2)
theorem dx_op {op : Operator} {g : D → D → Option D} {a b : Expr} {ma mb : T → Option (D × T)} {pos : Pos} (ho : OpD X (binaryOp op) g) (ha : DX X c G a ma) (hb : DX X c G b mb) : DX X c G (.BinOp a op b pos) (binX g ma mb) := fun t d t' hd σ H Q E k => by
  obtain ⟨⟨x, t1⟩, e1, e2⟩ := Option.bind_eq_some_iff.mp hd
  obtain ⟨⟨y, t2⟩, e3, e4⟩ := Option.bind_eq_some_iff.mp e2
  obtain ⟨z, e5, e6⟩ := Option.map_eq_some_iff.mp e4
  cases e6
  refine sE_of (pe_op ho (pe_s a) (pe_s b)) ?_
  exact ha t x t1 e1 σ H _ E fun v H1 E1 s1 r1 => hb t1 y _ e3 σ H1 _ E1 fun u H2 E2 s2 r2 => ⟨x, y, d, .st (r1.mono (s2.mono E1)), .st r2, e5, fun w H3 s3 r3 => k w H3 (E2.same s3) ((s1.trans s2).trans (.of_same E2 s3)) r3⟩
theorem dx_cmp {op : CmpOp} {g : D → D → Option D} {a b : Expr} {ma mb : T → Option (D × T)} {pos : Pos} (ho : OpD X (compareOp op) g) (ha : DX X c G a ma) (hb : DX X c G b mb) (hm : behindInMarks op b = false := by first | rfl | exact nomark _) : DX X c G (.Compare a [op] [b] pos) (binX g ma mb) := fun t d t' hd σ H Q E k => by
  obtain ⟨⟨x, t1⟩, e1, e2⟩ := Option.bind_eq_some_iff.mp hd
  obtain ⟨⟨y, t2⟩, e3, e4⟩ := Option.bind_eq_some_iff.mp e2
  obtain ⟨z, e5, e6⟩ := Option.map_eq_some_iff.mp e4
  cases e6
  refine sE_of (pe_cmpR ho (pe_s a) (pe_s b) hm) ?_
  exact ha t x t1 e1 σ H _ E fun v H1 E1 s1 r1 => hb t1 y _ e3 σ H1 _ E1 fun u H2 E2 s2 r2 => ⟨x, y, d, .st (r1.mono (s2.mono E1)), .st r2, e5, fun w H3 s3 r3 => k w H3 (E2.same s3) ((s1.trans s2).trans (.of_same E2 s3)) r3⟩
def isBX (m : T → Option (D × T)) : T → Option (Bool × T) := fun t => (m t).bind fun p => (isB p.1).map fun b => (b, p.2)
theorem dxt_cmp {op : CmpOp} {g : D → D → Option D} {a b : Expr} {ma mb : T → Option (D × T)} {pos : Pos} (ho : OpD X (compareOp op) g) (ha : DX X c G a ma) (hb : DX X c G b mb) (hm : behindInMarks op b = false := by first | rfl | exact nomark _) : DXT X c G (.Compare a [op] [b] pos) (isBX (binX g ma mb)) := fun t d t' hd σ H Q E k => by
  obtain ⟨⟨w, t3⟩, e0, e00⟩ := Option.bind_eq_some_iff.mp hd
  obtain ⟨bb, e7, e8⟩ := Option.map_eq_some_iff.mp e00
  cases e8
  have ew := isB_eq e7
  have ew' : w = .bool d := ew
  subst ew'
  obtain ⟨⟨x, t1⟩, e1, e2⟩ := Option.bind_eq_some_iff.mp e0
  obtain ⟨⟨y, t2⟩, e3, e4⟩ := Option.bind_eq_some_iff.mp e2
  obtain ⟨z, e5, e6⟩ := Option.map_eq_some_iff.mp e4
  cases e6
  refine sT_of (pt_cmpR ho (pe_s a) (pe_s b) hm) ?_
  exact ha t x t1 e1 σ H _ E fun v H1 E1 s1 r1 => hb t1 y _ e3 σ H1 _ E1 fun u H2 E2 s2 r2 => ⟨x, y, _, .st (r1.mono (s2.mono E1)), .st r2, e5, fun w H3 s3 r3 => ⟨d, RpW.bool (.st r3), k H3 (E2.same s3) ((s1.trans s2).trans (.of_same E2 s3))⟩⟩
theorem dxt_val {e : Expr} {m : T → Option (D × T)} (h : DX X c G e m) (he : ∀ whole, isTrue e X.env whole = (do let v ← whole; standAt e.pos; holding [v] (truthy v)) := by intro _; rfl) : DXT X c G e (isBX m) := fun t d t' hd σ H Q E k => by
  obtain ⟨⟨w, t3⟩, e0, e00⟩ := Option.bind_eq_some_iff.mp hd
  obtain ⟨bb, e7, e8⟩ := Option.map_eq_some_iff.mp e00
  cases e8
  have ew' : w = .bool d := isB_eq e7
  subst ew'
  exact sT_of (pt_val (pe_s e) he) (h t _ _ e0 σ H _ E fun v H' E' s r => ⟨d, RpW.bool (.st r), k H' E' s⟩)
theorem DXTw.t {e : Expr} {m : T → Option (Bool × T)} (h : DXTw X c G e m) : DXT X c G e m := fun t d t' hd σ H Q E k => fun pins s I => h t d t' hd σ H Q E k _ pins s I
def andTX (a b : T → Option (Bool × T)) : T → Option (Bool × T) := fun t => (a t).bind fun p => if p.1 then b p.2 else some (false, p.2)
def orTX (a b : T → Option (Bool × T)) : T → Option (Bool × T) := fun t => (a t).bind fun p => if p.1 then some (true, p.2) else b p.2
theorem dxw_and1 {a : Expr} {ma : T → Option (Bool × T)} {pos : Pos} (h : DXT X c G a ma) : DXTw X c G (.BoolOp .And [a] pos) ma := fun t d t' hd σ H Q E k => sW_of (pw_and1 (pt_s a)) (h t d t' hd σ H _ E k)
theorem dxw_or1 {a : Expr} {ma : T → Option (Bool × T)} {pos : Pos} (h : DXT X c G a ma) : DXTw X c G (.BoolOp .Or [a] pos) ma := fun t d t' hd σ H Q E k => sW_of (pw_or1 (pt_s a)) (h t d t' hd σ H _ E k)
theorem dxw_and {a b : Expr} {rest : List Expr} {ma mb : T → Option (Bool × T)} {pos : Pos} (h : DXT X c G a ma) (hb : DXTw X c G (.BoolOp .And (b :: rest) pos) mb) : DXTw X c G (.BoolOp .And (a :: b :: rest) pos) (andTX ma mb) := fun t d t' hd σ H Q E k => by
  obtain ⟨⟨x, t1⟩, e1, e2⟩ := Option.bind_eq_some_iff.mp hd
  refine sW_of (pw_and (pt_s a) (pw_s _)) (h t x t1 e1 σ H _ E fun H1 E1 s1 => ?_)
  cases x with
  | true => exact iteT (hb t1 d t' e2 σ H1 _ E1 fun H2 E2 s2 => k H2 E2 (s1.trans s2))
  | false =>
    rw [if_neg Bool.false_ne_true] at e2
    cases e2
    exact iteF (k H1 E1 s1)
theorem dxw_or {a b : Expr} {rest : List Expr} {ma mb : T → Option (Bool × T)} {pos : Pos} (h : DXT X c G a ma) (hb : DXTw X c G (.BoolOp .Or (b :: rest) pos) mb) : DXTw X c G (.BoolOp .Or (a :: b :: rest) pos) (orTX ma mb) := fun t d t' hd σ H Q E k => by
  obtain ⟨⟨x, t1⟩, e1, e2⟩ := Option.bind_eq_some_iff.mp hd
  refine sW_of (pw_or (pt_s a) (pw_s _)) (h t x t1 e1 σ H _ E fun H1 E1 s1 => ?_)
  cases x with
  | true =>
    rw [if_pos rfl] at e2
    cases e2
    exact iteT (k H1 E1 s1)
  | false => exact iteF (hb t1 d t' e2 σ H1 _ E1 fun H2 E2 s2 => k H2 E2 (s1.trans s2))
def notTX (a : T → Option (Bool × T)) : T → Option (Bool × T) := fun t => (a t).map fun p => (!p.1, p.2)
theorem dxt_not {a : Expr} {ma : T → Option (Bool × T)} {pos : Pos} (h : DXT X c G a ma) : DXT X c G (.UnaryOp .Not a pos) (notTX ma) := fun t d t' hd σ H Q E k => by
  obtain ⟨⟨x, t1⟩, e1, e2⟩ := Option.map_eq_some_iff.mp hd
  cases e2
  exact sT_of (pt_not (pt_s a)) (h t x _ e1 σ H _ E fun H1 E1 s1 => k H1 E1 s1)
def andVX (a b : T → Option (D × T)) : T → Option (D × T) := fun t => (a t).bind fun p => (isB p.1).bind fun x => if x then b p.2 else some (.bool false, p.2)
theorem dx_one {op : BoolOp} {a : Expr} {ma : T → Option (D × T)} {pos : Pos} (h : DX X c G a ma) : DX X c G (.BoolOp op [a] pos) ma := fun t d t' hd σ H Q E k => sE_of (pe_one (pe_s a)) (h t d t' hd σ H Q E k)
theorem dx_and {a b : Expr} {rest : List Expr} {ma mb : T → Option (D × T)} {pos : Pos} (h : DX X c G a ma) (hb : DX X c G (.BoolOp .And (b :: rest) pos) mb) : DX X c G (.BoolOp .And (a :: b :: rest) pos) (andVX ma mb) := fun t d t' hd σ H Q E k => by
  obtain ⟨⟨z, t1⟩, e1, e2⟩ := Option.bind_eq_some_iff.mp hd
  obtain ⟨x, e3, e4⟩ := Option.bind_eq_some_iff.mp e2
  have ez : z = .bool x := isB_eq e3
  subst ez
  refine sE_of (pe_and (pe_s a) (pe_s _)) (h t _ t1 e1 σ H _ E fun v H1 E1 s1 r1 => ⟨x, RpW.bool (.st r1), ?_⟩)
  cases x with
  | true => exact iteT (hb t1 d t' e4 σ H1 _ E1 fun w H2 E2 s2 r2 => k w H2 E2 (s1.trans s2) r2)
  | false =>
    rw [if_neg Bool.false_ne_true] at e4
    cases e4
    exact iteF (k _ H1 E1 s1 (.bl false))
/-! a if t else b -/
def iteX {α : Type} (t : T → Option (Bool × T)) (a b : T → Option (α × T)) : T → Option (α × T) := fun s => (t s).bind fun p => if p.1 then a p.2 else b p.2
theorem dx_ite {e a b : Expr} {mt : T → Option (Bool × T)} {ma mb : T → Option (D × T)} {pos : Pos} (ht : DXT X c G e mt) (ha : DX X c G a ma) (hb : DX X c G b mb) : DX X c G (.IfExp e a b pos) (iteX mt ma mb) := fun t d t' hd σ H Q E k => by
  obtain ⟨⟨x, t1⟩, e1, e2⟩ := Option.bind_eq_some_iff.mp hd
  refine sE_of (pe_ifExp (pt_s e) (pe_s a) (pe_s b)) (ht t x t1 e1 σ H _ E fun H1 E1 s1 => ?_)
  cases x with
  | true => exact iteT (ha t1 d t' e2 σ H1 _ E1 fun w H2 E2 s2 r2 => k w H2 E2 (s1.trans s2) r2)
  | false => exact iteF (hb t1 d t' e2 σ H1 _ E1 fun w H2 E2 s2 r2 => k w H2 E2 (s1.trans s2) r2)
theorem dxf_ite {e a b : Expr} {mt : T → Option (Bool × T)} {ma mb : T → Option (List D × T)} {pos : Pos} (ht : DXT X c G e mt) (ha : DXF X c G a ma) (hb : DXF X c G b mb) : DXF X c G (.IfExp e a b pos) (iteX mt ma mb) := fun t d t' hd σ H Q E k => by
  obtain ⟨⟨x, t1⟩, e1, e2⟩ := Option.bind_eq_some_iff.mp hd
  refine sE_of (pe_ifExp (pt_s e) (pe_s a) (pe_s b)) (ht t x t1 e1 σ H _ E fun H1 E1 s1 => ?_)
  cases x with
  | true => exact iteT (ha t1 d t' e2 σ H1 _ E1 fun a H2 xs hn E2 s2 h2 r2 => k a H2 xs (s1.free E hn) E2 (s1.trans s2) h2 r2)
  | false => exact iteF (hb t1 d t' e2 σ H1 _ E1 fun a H2 xs hn E2 s2 h2 r2 => k a H2 xs (s1.free E hn) E2 (s1.trans s2) h2 r2)
/-! displays, calls, items -/
def lenOkX (m : T → Option (List D × T)) : T → Option (List D × T) := fun t => (m t).bind fun p => if p.1.length ≤ 100000 then some p else none
def tupX (m : T → Option (List D × T)) : T → Option (D × T) := fun t => (lenOkX m t).map fun p => (.tuple p.1, p.2)
theorem dx_tup {es : List Expr} {m : T → Option (List D × T)} {x1 : Nat} {pos : Pos} (h : DXA X c G es m) (hs : NoStar X es := by exact ⟨rfl, rfl, rfl, rfl, trivial⟩) : DX X c G (.Tuple es x1 pos) (tupX m) := fun t d t' hd σ H Q E k => by
  obtain ⟨⟨ds, t1⟩, e0, e00⟩ := Option.map_eq_some_iff.mp hd
  cases e00
  obtain ⟨⟨ds', t2⟩, e1, e2⟩ := Option.bind_eq_some_iff.mp e0
  split at e2
  · rename_i hl
    cases e2
    refine sE_of (pe_tup (pa_s hs)) (h t _ _ e1 σ H _ E fun vs H1 E1 s1 r1 => ⟨?_, fun p hp => ?_⟩)
    · rw [r1.length]
      exact Nat.le_trans hl (by decide)
    · exact k _ _ (E1.same (Same.new hp)) (s1.trans (.of_same E1 (Same.new hp))) (.tup (SqT.of upd_same) (r1.mono (.of_same (Same.new hp))))
  · cases e2
theorem dxf_lst {es : List Expr} {m : T → Option (List D × T)} {pos : Pos} (h : DXA X c G es m) (hs : NoStar X es := by exact ⟨rfl, rfl, rfl, rfl, trivial⟩) : DXF X c G (.List es pos) (lenOkX m) := fun t d t' hd σ H Q E k => by
  obtain ⟨⟨ds', t2⟩, e1, e2⟩ := Option.bind_eq_some_iff.mp hd
  split at e2
  · rename_i hl
    cases e2
    refine sE_of (pe_lst (pa_s hs)) (h t _ _ e1 σ H _ E fun vs H1 E1 s1 r1 => ⟨?_, fun p hp => ?_⟩)
    · rw [r1.length]
      exact Nat.le_trans hl (by decide)
    · exact k _ _ _ (s1.free E hp) (E1.same (Same.new hp)) (s1.trans (.of_same E1 (Same.new hp))) upd_same (r1.mono (.of_same (Same.new hp)))
  · cases e2
def appX {α : Type} (g : List D → Option α) (m : T → Option (List D × T)) : T → Option (α × T) := fun t => (m t).bind fun p => (g p.1).map fun z => (z, p.2)
theorem dx_callB {x : Str} {id : String} {g : List D → Option D} {e : Expr} {es : List Expr} {m : T → Option (List D × T)} {p pos : Pos} (hc : CallD X (.builtin id) g) (hm : X.mg x = none) (ha : DXA X c G (e :: es) m) (hg : Gl X x := by rfl) (hv : bootBuiltins x = some (.builtin id) := by decide +kernel)
    (hs : NoStar X (e :: es) := by exact ⟨rfl, rfl, rfl, rfl, trivial⟩) (hn : x ≠ "__name__" := by decide) (hdb : (x == ("__debug__" : Str)) = false := by decide) (hpl : (backTo pos (starEach es X.env)).any (·.1) = false := by rfl) : DX X c G (.Call (.Name x p) (e :: es) [] pos) (appX g m) := fun t d t' hd σ H Q E k => by
  obtain ⟨⟨ds, t1⟩, e1, e2⟩ := Option.bind_eq_some_iff.mp hd
  obtain ⟨z, e3, e4⟩ := Option.map_eq_some_iff.mp e2
  cases e4
  refine sE_of (pe_callB hc hg hm hv (pa_s hs) hn hdb hs.1 hpl) ?_
  exact ha t ds _ e1 σ H _ E fun vs H1 E1 s1 r1 => ⟨ds, d, .of r1, e3, fun w H2 s2 r2 => k w H2 (E1.same s2) (s1.trans (.of_same E1 s2)) r2⟩
theorem dx_callT {x : Str} {id : String} {g : List D → Option D} {e : Expr} {es : List Expr} {m : T → Option (List D × T)} {p pos : Pos} (hc : CallD X (.type id) g) (hm : X.mg x = none) (ha : DXA X c G (e :: es) m) (hg : Gl X x := by rfl) (hv : bootBuiltins x = some (.type id) := by decide +kernel)
    (hs : NoStar X (e :: es) := by exact ⟨rfl, rfl, rfl, rfl, trivial⟩) (hn : x ≠ "__name__" := by decide) (hdb : (x == ("__debug__" : Str)) = false := by decide) (hpl : (backTo pos (starEach es X.env)).any (·.1) = false := by rfl) : DX X c G (.Call (.Name x p) (e :: es) [] pos) (appX g m) := fun t d t' hd σ H Q E k => by
  obtain ⟨⟨ds, t1⟩, e1, e2⟩ := Option.bind_eq_some_iff.mp hd
  obtain ⟨z, e3, e4⟩ := Option.map_eq_some_iff.mp e2
  cases e4
  refine sE_of (pe_callTy hc hg hm hv (pa_s hs) hn hdb hs.1 hpl) ?_
  exact ha t ds _ e1 σ H _ E fun vs H1 E1 s1 r1 => ⟨ds, d, .of r1, e3, fun w H2 s2 r2 => k w H2 (E1.same s2) (s1.trans (.of_same E1 s2)) r2⟩
theorem dxf_callB {x : Str} {id : String} {g : List D → Option (List D)} {e : Expr} {es : List Expr} {m : T → Option (List D × T)} {p pos : Pos} (hc : CallF X (.builtin id) g) (hm : X.mg x = none) (ha : DXA X c G (e :: es) m) (hg : Gl X x := by rfl) (hv : bootBuiltins x = some (.builtin id) := by decide +kernel)
    (hs : NoStar X (e :: es) := by exact ⟨rfl, rfl, rfl, rfl, trivial⟩) (hn : x ≠ "__name__" := by decide) (hdb : (x == ("__debug__" : Str)) = false := by decide) (hpl : (backTo pos (starEach es X.env)).any (·.1) = false := by rfl) : DXF X c G (.Call (.Name x p) (e :: es) [] pos) (appX g m) := fun t d t' hd σ H Q E k => by
  obtain ⟨⟨ds, t1⟩, e1, e2⟩ := Option.bind_eq_some_iff.mp hd
  obtain ⟨z, e3, e4⟩ := Option.map_eq_some_iff.mp e2
  cases e4
  refine sE_of (pe_callB hc hg hm hv (pa_s hs) hn hdb hs.1 hpl) ?_
  exact ha t ds _ e1 σ H _ E fun vs H1 E1 s1 r1 => ⟨ds, d, .of r1, e3, fun a H2 xs hn s2 h2 r2 => k a H2 xs (s1.free E hn) (E1.same s2) (s1.trans (.of_same E1 s2)) h2 r2⟩
theorem dx_ix {a b : Expr} {ma mb : T → Option (D × T)} {pos : Pos} (ha : DX X c G a ma) (hb : DX X c G b mb) (hs : PlainIx b := by intro _ _; rfl) : DX X c G (.Subscript a b pos) (binX dIx ma mb) := fun t d t' hd σ H Q E k => by
  obtain ⟨⟨x, t1⟩, e1, e2⟩ := Option.bind_eq_some_iff.mp hd
  obtain ⟨⟨y, t2⟩, e3, e4⟩ := Option.bind_eq_some_iff.mp e2
  obtain ⟨z, e5, e6⟩ := Option.map_eq_some_iff.mp e4
  cases e6
  refine sE_of (pe_ix id_ix (pe_s a) (pe_s b) hs) ?_
  exact ha t x t1 e1 σ H _ E fun v H1 E1 s1 r1 => hb t1 y _ e3 σ H1 _ E1 fun u H2 E2 s2 r2 => ⟨x, y, d, .st (r1.mono (s2.mono E1)), .st r2, e5, fun w H3 s3 r3 => k w H3 (E2.same s3) ((s1.trans s2).trans (.of_same E2 s3)) r3⟩
end
end DL

set_option Elab.async false
set_option linter.all false
set_option maxRecDepth 100000
set_option maxHeartbeats 2000000
set_option autoImplicit false
namespace DL
open PySem PySem.Spec PyProof.Rows L2
/-! ### what is walked -/
/-- an iterator over the data ds, as long as Gd stands -/
structure ItD (K : Fr_) (J : It) (ds : List D) (Gd : Hp → Prop) : Prop where
  goes : ∀ i H, i < ds.length → Gd H → J.go i H
  stops : ∀ H, Gd H → J.stop ds.length H
  yields : ∀ i H x H' d, ds[i]? = some d → Gd H → J.yld i H x H' → Same H H' ∧ Rp K H' x d
  stays : ∀ H H', Gd H → Mono H H' → Gd H'
section
variable (X : Cx) (c : FC)
def sI (tg iter : Expr) : TI := fun σ H R => ∀ (pins : List (Addr × Obj)) (s : Shared), Inv X pins σ H s → wpAny (model X.prog X.w) X.A (eval iter X.env) (fun v s1 => wpAny (model X.prog X.w) X.A (pyIter v) (PIE X pins σ tg R) X.xe s1) X.xe s
def DI (Γ : Env_) (tg iter : Expr) (m : Option (List D)) : Prop := ∀ ds, m = some ds → ∀ (σ : St) (H : Hp) (R : It → Hp → Prop), EnvOk X.K c σ H Γ → (∀ J H' Gd, Same H H' → ItD X.K J ds Gd → Gd H' → R J H') → sI X tg iter σ H R
def DXI {T : Type} (G : T → Env_) (tg iter : Expr) (m : T → Option (List D × T)) : Prop := ∀ t ds t', m t = some (ds, t') → ∀ (σ : St) (H : Hp) (R : It → Hp → Prop), EnvOk X.K c σ H (G t) → (∀ J H' Gd, EnvOk X.K c σ H' (G t') → Step (G t) (G t') σ H H' → ItD X.K J ds Gd → Gd H' → R J H') → sI X tg iter σ H R
end
section
variable {X : Cx} {c : FC}
theorem pi_s (tg iter : Expr) : PI X tg iter (sI X tg iter) := ⟨fun pins s _ _ _ I h => h pins s I⟩
theorem sI_of {tg iter : Expr} {wi : TI} {σ : St} {H : Hp} {R : It → Hp → Prop} (h : PI X tg iter wi) (q : wi σ H R) : sI X tg iter σ H R := fun pins s I => h.run pins s σ H R I q
theorem pi_or {tg iter : Expr} {w1 w2 : TI} (h1 : PI X tg iter w1) (h2 : PI X tg iter w2) : PI X tg iter (fun σ H R => w1 σ H R ∨ w2 σ H R) := ⟨fun pins s σ H R I h => h.elim (h1.run pins s σ H R I) (h2.run pins s σ H R I)⟩
theorem pi_seq {tg l : Expr} {tl : TE} (hl : PE X l tl) : PI X tg l (fun σ H R => tl σ H fun x H1 => ∃ a, x = .ref a ∧ (((∃ xs, SqL X.K H1 a xs) ∧ R (Itl X.K a) H1) ∨ ((∃ xs, SqT X.K H1 a xs) ∧ R (Itt X.K a) H1))) := by
  refine ⟨fun pins s σ H R I h => ?_⟩
  refine thn (hl.run pins s σ H _ I h) fun v s1 ⟨x, H1, I1, r1, a, e, q⟩ => ?_
  have base : ∀ wi : TI, PI X tg (.Constant .none 0 ⟨0, 0, 0, 0⟩) wi → True := fun _ _ => trivial
  subst e
  cases r1
  rcases q with ⟨⟨xs, hq⟩, q⟩ | ⟨⟨xs, hq⟩, q⟩
  · obtain ⟨its, rv, p, hz⟩ := I1.list hq
    refine wpAny_pyIter_list p.isList (pi_one (tk := s1.toks) I1 _ (turn_list a _) ⟨_, Heap.get?_push_size _ rfl, rfl, rfl⟩ q)
  · obtain ⟨its, rv, p, hz⟩ := I1.tuple hq
    refine wpAny_pyIter_tuple (show s1.heap.IsTuple a its.toArray from p) (pi_one (tk := s1.toks) I1 _ (turn_tuple a _) ⟨_, Heap.get?_push_size _ rfl, rfl, rfl⟩ q)
def iterD : D → Option (List D)
  | .list ds => some ds
  | .tuple ds => some ds
  | _ => none
theorem itd_list {K : Fr_} {a : Addr} {xs : List V} {ds : List D} : ItD K (Itl K a) ds (fun H => Fz K H a xs ∧ RpA K H xs ds) where
  goes := fun i H hi ⟨h, r⟩ => by
    have hi' : i < xs.length := by rw [r.length]; exact hi
    exact ⟨xs, xs[i], h.sq, List.getElem?_eq_getElem hi'⟩
  stops := fun H ⟨h, r⟩ => ⟨xs, h.sq, by rw [r.length]; exact Nat.le_refl _⟩
  yields := fun i H x H' d hd ⟨h, r⟩ ⟨e, y⟩ => by
    subst e
    obtain ⟨v, h1, h2⟩ := r.get hd
    have := y xs h.sq
    rw [h1] at this
    cases this
    exact ⟨Same.refl _, h2⟩
  stays := fun H H' ⟨h, r⟩ m => ⟨m.fz h, r.mono m⟩
theorem itd_tup {K : Fr_} {a : Addr} {xs : List V} {ds : List D} : ItD K (Itt K a) ds (fun H => SqT K H a xs ∧ RpA K H xs ds) where
  goes := fun i H hi ⟨h, r⟩ => by
    have hi' : i < xs.length := by rw [r.length]; exact hi
    exact ⟨xs, xs[i], h, List.getElem?_eq_getElem hi'⟩
  stops := fun H ⟨h, r⟩ => ⟨xs, h, by rw [r.length]; exact Nat.le_refl _⟩
  yields := fun i H x H' d hd ⟨h, r⟩ ⟨e, y⟩ => by
    subst e
    obtain ⟨v, h1, h2⟩ := r.get hd
    have := y xs h
    rw [h1] at this
    cases this
    exact ⟨Same.refl _, h2⟩
  stays := fun H H' ⟨h, r⟩ m => ⟨m.sqT h, r.mono m⟩
/-- the ints lo, lo + 1, .. below hi -/
def rangeL (lo hi : Int) : List D := (List.range (hi - lo).toNat).map fun i => .int (lo + (i : Nat))
theorem rangeL_len (lo hi : Int) : (rangeL lo hi).length = (hi - lo).toNat := by unfold rangeL; rw [List.length_map, List.length_range]
theorem rangeL_get {lo hi : Int} {i : Nat} {d : D} (h : (rangeL lo hi)[i]? = some d) : d = .int (lo + (i : Nat)) ∧ i < (hi - lo).toNat := by
  have hl := (List.getElem?_eq_some_iff.mp h).1
  rw [rangeL_len] at hl
  unfold rangeL at h
  rw [List.getElem?_map, List.getElem?_range hl] at h
  cases h
  exact ⟨rfl, hl⟩
theorem itd_range {K : Fr_} {lo hi : Int} : ItD K (Itr lo (hi - lo).toNat) (rangeL lo hi) (fun _ => True) where
  goes := fun i H hl _ => by rw [rangeL_len] at hl; exact hl
  stops := fun H _ => by
    show (hi - lo).toNat ≤ (rangeL lo hi).length
    rw [rangeL_len]
    exact Nat.le_refl _
  yields := fun i H x H' d hd _ ⟨e, y⟩ => by
    subst e
    obtain ⟨rfl, _⟩ := rangeL_get hd
    subst y
    exact ⟨Same.refl _, .int _⟩
  stays := fun _ _ _ _ => trivial
/-- small enough for a range -/
noncomputable def rOk (i : Int) : Bool := cl (-(2 ^ 62) ≤ i ∧ i < 2 ^ 62)
theorem rOk_iff {i : Int} (h : rOk i = true) : -(2 ^ 62) ≤ i ∧ i < 2 ^ 62 := cl_iff.mp h
noncomputable def dR1 : D → Option (List D)
  | .int b => if rOk b then some (rangeL 0 b) else none
  | _ => none
noncomputable def dR2 : D → D → Option (List D)
  | .int a, .int b => if rOk a && rOk b then some (rangeL a b) else none
  | _, _ => none
theorem itd_range0 {K : Fr_} {b : Int} : ItD K (Itr 0 b.toNat) (rangeL 0 b) (fun _ => True) := by
  have q := itd_range (K := K) (lo := 0) (hi := b)
  rw [show b - 0 = b by omega] at q
  exact q
section
variable {Γ : Env_}
theorem seq_go {σ : St} {H H1 : Hp} {R : It → Hp → Prop} {v : V} {x : D} {ds : List D} (r1 : Rp X.K H1 v x) (e2 : iterD x = some ds) (k : ∀ J Gd, ItD X.K J ds Gd → Gd H1 → R J H1) :
    ∃ a, v = V.ref a ∧ (((∃ xs, SqL X.K H1 a xs) ∧ R (Itl X.K a) H1) ∨ ((∃ xs, SqT X.K H1 a xs) ∧ R (Itt X.K a) H1)) := by
  cases r1 with
  | lst h r =>
    cases e2
    exact ⟨_, rfl, .inl ⟨⟨_, h.sq⟩, k _ _ itd_list ⟨h, r⟩⟩⟩
  | tup h r =>
    cases e2
    exact ⟨_, rfl, .inr ⟨⟨_, h⟩, k _ _ itd_tup ⟨h, r⟩⟩⟩
  | _ => cases e2
theorem di_seq {tg e : Expr} {m : Option D} (h : DE X c Γ e m) : DI X c Γ tg e (m.bind iterD) := fun ds hd σ H R E k => by
  obtain ⟨x, e1, e2⟩ := Option.bind_eq_some_iff.mp hd
  exact sI_of (pi_seq (pe_s e)) (h x e1 σ H _ E fun v H1 s1 r1 => seq_go (σ := σ) (H := H) r1 e2 fun J Gd i g => k J H1 Gd s1 i g)
theorem r1_go {H1 : Hp} {R : It → Hp → Prop} {v : V} {x : D} {ds : List D} (r1 : RpW X.K H1 v x) (e2 : dR1 x = some ds) (k : ∀ J Gd, ItD X.K J ds Gd → Gd H1 → R J H1) : ∃ j : Int, v = .int j ∧ -(2 ^ 62) ≤ j ∧ j < 2 ^ 62 ∧ R (Itr 0 j.toNat) H1 := by
  unfold dR1 at e2
  split at e2
  · split at e2
    · rename_i hb
      cases e2
      obtain ⟨b1, b2⟩ := rOk_iff hb
      exact ⟨_, r1.int, b1, b2, k _ _ itd_range0 trivial⟩
    · cases e2
  · cases e2
theorem r2_go {H1 : Hp} {R : It → Hp → Prop} {v u : V} {x y : D} {ds : List D} (r1 : RpW X.K H1 v x) (r2 : RpW X.K H1 u y) (e2 : dR2 x y = some ds) (k : ∀ J Gd, ItD X.K J ds Gd → Gd H1 → R J H1) :
    ∃ i j : Int, v = .int i ∧ u = .int j ∧ (-(2 ^ 62) ≤ i ∧ i < 2 ^ 62 ∧ -(2 ^ 62) ≤ j ∧ j < 2 ^ 62) ∧ R (Itr i (j - i).toNat) H1 := by
  unfold dR2 at e2
  split at e2
  · split at e2
    · rename_i hb
      cases e2
      obtain ⟨h1, h2⟩ := Bool.and_eq_true_iff.mp hb
      obtain ⟨b1, b2⟩ := rOk_iff h1
      obtain ⟨b3, b4⟩ := rOk_iff h2
      exact ⟨_, _, r1.int, r2.int, ⟨b1, b2, b3, b4⟩, k _ _ itd_range trivial⟩
    · cases e2
  · cases e2
theorem di_range1 {tg a : Expr} {m : Option D} {p pos : Pos} (hm : X.mg "range" = none) (ha : DE X c Γ a m) (hg : Gl X "range" := by rfl) (hs : starEach [a] X.env = [(false, eval a X.env)] := by rfl) : DI X c Γ tg (.Call (.Name "range" p) [a] [] pos) (m.bind dR1) := fun ds hd σ H R E k => by
  obtain ⟨x, e1, e2⟩ := Option.bind_eq_some_iff.mp hd
  refine sI_of (pi_range1 hg hm (pa_s ⟨hs, trivial⟩) hs) (ha x e1 σ H _ E fun v H1 s1 r1 => ?_)
  obtain ⟨j, e, b1, b2, q⟩ := r1_go (.st r1) e2 fun J Gd i g => k J H1 Gd s1 i g
  exact ⟨j, by rw [e], b1, b2, q⟩
theorem di_range2 {tg a b : Expr} {ma mb : Option D} {p pos : Pos} (hm : X.mg "range" = none) (ha : DE X c Γ a ma) (hb : DE X c Γ b mb) (hg : Gl X "range" := by rfl) (hs : starEach [a, b] X.env = [(false, eval a X.env), (false, eval b X.env)] := by rfl) (hs2 : starEach [b] X.env = [(false, eval b X.env)] := by rfl) :
    DI X c Γ tg (.Call (.Name "range" p) [a, b] [] pos) (ma.bind fun x => mb.bind fun y => dR2 x y) := fun ds hd σ H R E k => by
  obtain ⟨x, e1, e2⟩ := Option.bind_eq_some_iff.mp hd
  obtain ⟨y, e3, e4⟩ := Option.bind_eq_some_iff.mp e2
  refine sI_of (pi_range2 hg hm (pa_s ⟨by rw [hs, hs2], hs2, trivial⟩) hs hs2) (ha x e1 σ H _ E fun v H1 s1 r1 => hb y e3 σ H1 _ (E.same s1) fun u H2 s2 r2 => ?_)
  obtain ⟨i, j, ei, ej, b1, q⟩ := r2_go (.st (r1.mono (.of_same s2))) (.st r2) e4 fun J Gd i g => k J H2 Gd (s1.trans s2) i g
  exact ⟨i, j, by rw [ei, ej], b1, q⟩
theorem di_str {tg e : Expr} {m : Option D} (h : DE X c Γ e m) : DI X c Γ tg e (m.bind fun d => match d with | .str z => some (z.cps.toList.map fun ch => .str ⟨#[ch]⟩) | _ => none) := fun ds hd σ H R E k => by
  obtain ⟨x, e1, e2⟩ := Option.bind_eq_some_iff.mp hd
  split at e2
  · rename_i z
    cases e2
    refine sI_of (pi_str (pe_s e)) (h _ e1 σ H _ E fun v H1 s1 r1 => ⟨z, RpW.str (.st r1), k _ H1 (fun _ => True) s1 ⟨fun i H hi _ => ?_, fun H _ => ?_, fun i H x H' d hd _ y => ?_, fun _ _ _ _ => trivial⟩ trivial⟩)
    · rw [List.length_map, Array.length_toList] at hi
      exact hi
    · show z.cps.size ≤ _
      rw [List.length_map, Array.length_toList]
      exact Nat.le_refl _
    · obtain ⟨rfl, ch, h1, rfl⟩ := y
      rw [List.getElem?_map] at hd
      obtain ⟨ch', h2, rfl⟩ := Option.map_eq_some_iff.mp hd
      rw [Array.getElem?_toList, h1] at h2
      cases h2
      exact ⟨Same.refl _, .str _⟩
  · cases e2
end
section
variable {T : Type} {G : T → Env_}
theorem dxi_lift {tg e : Expr} {m : T → Option (List D)} (h : ∀ t, DI X c (G t) tg e (m t)) : DXI X c G tg e (liftX m) := fun t d t' hd σ H R E k => by
  obtain ⟨e1, rfl⟩ := liftX_eq hd
  exact h _ d e1 σ H R E fun J H' Gd s i g => k J H' Gd (E.same s) (.of_same E s) i g
def bindX {α β : Type} (m : T → Option (α × T)) (g : α → Option β) : T → Option (β × T) := fun t => (m t).bind fun p => (g p.1).map fun z => (z, p.2)
theorem bindX_eq {α β : Type} {m : T → Option (α × T)} {g : α → Option β} {t t' : T} {z : β} (h : bindX m g t = some (z, t')) : ∃ x, m t = some (x, t') ∧ g x = some z := by
  obtain ⟨⟨x, t1⟩, e1, e2⟩ := Option.bind_eq_some_iff.mp h
  obtain ⟨w, e3, e4⟩ := Option.map_eq_some_iff.mp e2
  cases e4
  exact ⟨x, e1, e3⟩
theorem dxi_seq {tg e : Expr} {m : T → Option (D × T)} (h : DX X c G e m) : DXI X c G tg e (bindX m iterD) := fun t ds t' hd σ H R E k => by
  obtain ⟨x, e1, e2⟩ := bindX_eq hd
  exact sI_of (pi_seq (pe_s e)) (h t x t' e1 σ H _ E fun v H1 E1 s1 r1 => seq_go (σ := σ) (H := H) r1 e2 fun J Gd i g => k J H1 Gd E1 s1 i g)
theorem dxi_range1 {tg a : Expr} {m : T → Option (D × T)} {p pos : Pos} (hm : X.mg "range" = none) (ha : DX X c G a m) (hg : Gl X "range" := by rfl) (hs : starEach [a] X.env = [(false, eval a X.env)] := by rfl) : DXI X c G tg (.Call (.Name "range" p) [a] [] pos) (bindX m dR1) := fun t ds t' hd σ H R E k => by
  obtain ⟨x, e1, e2⟩ := bindX_eq hd
  refine sI_of (pi_range1 hg hm (pa_s ⟨hs, trivial⟩) hs) (ha t x t' e1 σ H _ E fun v H1 E1 s1 r1 => ?_)
  obtain ⟨j, e, b1, b2, q⟩ := r1_go (.st r1) e2 fun J Gd i g => k J H1 Gd E1 s1 i g
  exact ⟨j, by rw [e], b1, b2, q⟩
end
/-! targets -/
def sG (X : Cx) (tg : Expr) : TG := fun v σ H Q => ∀ (pins : List (Addr × Obj)) (s : Shared) (u : Value), Inv X pins σ H s → RelV v u → wpAny (model X.prog X.w) X.A (assign tg X.env u) (fun _ s' => ∃ σ' H', Inv X pins σ' H' s' ∧ Q σ' H') X.xe s
theorem pg_s (tg : Expr) : PG X tg (sG X tg) := ⟨fun pins s _ _ _ u _ I r h => h pins s u I r⟩
theorem sG_of {tg : Expr} {g : TG} {v : V} {σ : St} {H : Hp} {Q : St → Hp → Prop} (h : PG X tg g) (q : g v σ H Q) : sG X tg v σ H Q := fun pins s u I r => h.run pins s σ H v u Q I r q
/-- only the slots js changed -/
def OnlyAt (js : List Nat) (σ σ' : St) : Prop := σ'.length = σ.length ∧ ∀ i, i ∉ js → σ'[i]? = σ[i]?
theorem OnlyAt.trans {js ks : List Nat} {σ σ1 σ2 : St} (a : OnlyAt js σ σ1) (b : OnlyAt ks σ1 σ2) : OnlyAt (js ++ ks) σ σ2 := ⟨b.1.trans a.1, fun i hi => (b.2 i fun z => hi (List.mem_append_right _ z)).trans (a.2 i fun z => hi (List.mem_append_left _ z))⟩
theorem OnlyAt.set {i : Nat} {σ : St} {o : Option V} : OnlyAt [i] σ (σ.set i o) := ⟨List.length_set, fun j hj => List.getElem?_set_ne fun e => hj (by rw [e]; exact List.mem_cons_self)⟩
/-- a value of data x goes into tg: pm takes it apart, Gt tells the slots behind -/
def DG {P : Type} (X : Cx) (c : FC) (js : List Nat) (Γ : Env_) (tg : Expr) (pm : D → Option P) (Gt : P → Env_) : Prop :=
  ∀ x p, pm x = some p → ∀ (v : V) (σ : St) (H : Hp) (Q : St → Hp → Prop), EnvOk X.K c σ H Γ → Rp X.K H v x → (∀ σ', EnvOk X.K c σ' H (Gt p) → OnlyAt js σ σ' → Q σ' H) → sG X tg v σ H Q
theorem noPin {i : Nat} (h : (c.M.map (·.1)).contains i = false) : ∀ p ∈ c.M, p.1 ≠ i := fun p hp e => by
  subst e
  have : p.1 ∈ c.M.map (·.1) := List.mem_map.mpr ⟨p, hp, rfl⟩
  rw [← List.contains_iff_mem] at this
  rw [h] at this
  cases this
theorem dg_name (i : Nat) {Γ : Env_} {x : Str} {pos : Pos} (hN : X.N.Nodup) (hi : X.N[i]? = some x := by rfl) (hx : Loc X.env.scope x := by first | exact Or.inl rfl | exact Or.inr rfl) (hm : (c.M.map (·.1)).contains i = false := by rfl) (hf : X.fn x = true ∨ X.env.scope.names.lookup x = some .local := by first | exact .inl rfl | exact .inr rfl) :
    DG X c [i] Γ (.Name x pos) some (fun d => Γ.set i (.imm d)) := fun x' p hp v σ H Q E r k => by
  cases hp
  exact sG_of (pg_name hN hi hx hf) (k _ (E.setImm r (noPin hm)) OnlyAt.set)
def un2 {P Q : Type} (p1 : D → Option P) (p2 : D → Option Q) : D → Option (P × Q)
  | .tuple [a, b] => (p1 a).bind fun u => (p2 b).map fun w => (u, w)
  | _ => none
def un3 {P Q R : Type} (p1 : D → Option P) (p2 : D → Option Q) (p3 : D → Option R) : D → Option (P × Q × R)
  | .tuple [a, b, d] => (p1 a).bind fun u => (p2 b).bind fun w => (p3 d).map fun z => (u, w, z)
  | _ => none
theorem dg_tup2 {P1 P2 : Type} {js ks : List Nat} {Γ : Env_} {e1 e2 : Expr} {k1 : Nat} {pos : Pos} {p1 : D → Option P1} {p2 : D → Option P2} {G1 : P1 → Env_} {G2 : P1 → P2 → Env_} (hc : X.calm = true) (h1 : DG X c js Γ e1 p1 G1) (h2 : ∀ a, DG X c ks (G1 a) e2 p2 (G2 a))
    (n1 : assignEach [e1, e2] X.env = [(false, assign e1 X.env), (false, assign e2 X.env)] := by rfl) (n2 : assignEach [e2] X.env = [(false, assign e2 X.env)] := by rfl) :
    DG X c (js ++ ks) Γ (.Tuple [e1, e2] k1 pos) (un2 p1 p2) (fun q => G2 q.1 q.2) := fun x p hp v σ H Q E r k => by
  unfold un2 at hp
  split at hp
  · rename_i a b
    obtain ⟨u, e3, e4⟩ := Option.bind_eq_some_iff.mp hp
    obtain ⟨w, e5, rfl⟩ := Option.map_eq_some_iff.mp e4
    obtain ⟨ad, xs, rfl, hq, rr⟩ := RpW.tuple (.st r)
    cases rr with
    | cons ra rr =>
      cases rr with
      | cons rb rr =>
        cases rr
        refine sG_of (pg_tup hc (pgs_cons (pg_s e1) (pgs_cons (pg_s e2) pgs_nil (by rw [n2] <;> rfl)) (by rw [n1, n2] <;> rfl)) (by rw [n1] <;> rfl) (by rw [n1] <;> rfl)) ⟨ad, _, rfl, hq, rfl, _, _, rfl, ?_⟩
        exact h1 a u e3 _ σ H _ E ra fun σ1 E1 o1 => ⟨_, _, rfl, h2 u b w e5 _ σ1 H _ E1 rb fun σ2 E2 o2 => ⟨rfl, k σ2 E2 (o1.trans o2)⟩⟩
  · cases hp
theorem dg_tup3 {P1 P2 P3 : Type} {js ks ls : List Nat} {Γ : Env_} {e1 e2 e3 : Expr} {k1 : Nat} {pos : Pos} {p1 : D → Option P1} {p2 : D → Option P2} {p3 : D → Option P3} {G1 : P1 → Env_} {G2 : P1 → P2 → Env_} {G3 : P1 → P2 → P3 → Env_} (hc : X.calm = true) (h1 : DG X c js Γ e1 p1 G1) (h2 : ∀ a, DG X c ks (G1 a) e2 p2 (G2 a)) (h3 : ∀ a b, DG X c ls (G2 a b) e3 p3 (G3 a b))
    (n1 : assignEach [e1, e2, e3] X.env = [(false, assign e1 X.env), (false, assign e2 X.env), (false, assign e3 X.env)] := by rfl) (n2 : assignEach [e2, e3] X.env = [(false, assign e2 X.env), (false, assign e3 X.env)] := by rfl) (n3 : assignEach [e3] X.env = [(false, assign e3 X.env)] := by rfl) :
    DG X c ((js ++ ks) ++ ls) Γ (.Tuple [e1, e2, e3] k1 pos) (un3 p1 p2 p3) (fun q => G3 q.1 q.2.1 q.2.2) := fun x p hp v σ H Q E r k => by
  unfold un3 at hp
  split at hp
  · rename_i a b d
    obtain ⟨u, e4, e5⟩ := Option.bind_eq_some_iff.mp hp
    obtain ⟨w, e6, e7⟩ := Option.bind_eq_some_iff.mp e5
    obtain ⟨z, e8, rfl⟩ := Option.map_eq_some_iff.mp e7
    obtain ⟨ad, xs, rfl, hq, rr⟩ := RpW.tuple (.st r)
    cases rr with
    | cons ra rr =>
      cases rr with
      | cons rb rr =>
        cases rr with
        | cons rd rr =>
          cases rr
          refine sG_of (pg_tup hc (pgs_cons (pg_s e1) (pgs_cons (pg_s e2) (pgs_cons (pg_s e3) pgs_nil (by rw [n3] <;> rfl)) (by rw [n2, n3] <;> rfl)) (by rw [n1, n2] <;> rfl)) (by rw [n1] <;> rfl) (by rw [n1] <;> rfl)) ⟨ad, _, rfl, hq, rfl, _, _, rfl, ?_⟩
          exact h1 a u e4 _ σ H _ E ra fun σ1 E1 o1 => ⟨_, _, rfl, h2 u b w e6 _ σ1 H _ E1 rb fun σ2 E2 o2 => ⟨_, _, rfl, h3 u w d z e8 _ σ2 H _ E2 rd fun σ3 E3 o3 => ⟨rfl, k σ3 E3 ((o1.trans o2).trans o3)⟩⟩⟩
  · cases hp
end
end DL

set_option Elab.async false
set_option linter.all false
set_option maxRecDepth 100000
set_option maxHeartbeats 2000000
set_option autoImplicit false
namespace DL
open PySem PySem.Spec PyProof.Rows L2
/-! ### statements -/
/-- how a block ends -/
inductive Fl (N B R : Type) where
  | nx (n : N) | bk (b : B) | ct (b : B) | rt (r : R)
structure Fin_ (K : Fr_) (c : FC) {N B R : Type} (GN : N → Env_) (GB : B → Env_) (RK : R → V → Hp → Prop) (H : Hp) (o : Fl N B R) (D : Ends) : Prop where
  nx : ∀ n, o = .nx n → ∀ σ' H', EnvOk K c σ' H' (GN n) → Mono H H' → D.nx σ' H'
  bk : ∀ b, o = .bk b → ∀ σ' H', EnvOk K c σ' H' (GB b) → Mono H H' → D.bk σ' H'
  ct : ∀ b, o = .ct b → ∀ σ' H', EnvOk K c σ' H' (GB b) → Mono H H' → D.ct σ' H'
  rt : ∀ r, o = .rt r → ∀ v H', RK r v H' → D.rt v H'
theorem Fin_.mono {K : Fr_} {c : FC} {N B R : Type} {GN : N → Env_} {GB : B → Env_} {RK : R → V → Hp → Prop} {H H1 : Hp} {o : Fl N B R} {D : Ends} (f : Fin_ K c GN GB RK H o D) (m : Mono H H1) : Fin_ K c GN GB RK H1 o D :=
  ⟨fun n e σ' H' E m' => f.nx n e σ' H' E (m.trans m'), fun n e σ' H' E m' => f.bk n e σ' H' E (m.trans m'), fun n e σ' H' E m' => f.ct n e σ' H' E (m.trans m'), f.rt⟩
/-- the block sts ends as m tells -/
def DB (X : Cx) (c : FC) {N B R : Type} (GN : N → Env_) (GB : B → Env_) (RK : R → V → Hp → Prop) (Γ : Env_) (sts : List Stmt) (m : Option (Fl N B R)) : Prop :=
  ∀ o, m = some o → ∀ (σ : St) (H : Hp) (D : Ends), EnvOk X.K c σ H Γ → Fin_ X.K c GN GB RK H o D → sSs X sts D σ H
/-- the lists handed in stay held by their slots -/
def pinsIn (is : List Nat) (Γ : Env_) : Bool := is.all fun i => match Γ[i]? with
  | some (.own _) => true
  | _ => false
theorem pinsIn_iff {c : FC} {Γ : Env_} (h : pinsIn (c.M.map (·.1)) Γ = true) : ∀ p ∈ c.M, ∃ k : Cell, Γ[p.1]? = some k ∧ k.isOwn = true := fun p hp => by
  have h1 := List.all_eq_true.mp h p.1 (List.mem_map.mpr ⟨p, hp, rfl⟩)
  split at h1
  · rename_i ds e
    exact ⟨_, e, rfl⟩
  · cases h1
section
variable {X : Cx} {c : FC} {N B R : Type} {GN : N → Env_} {GB : B → Env_} {RK : R → V → Hp → Prop} {Γ : Env_} {rest : List Stmt}
theorem db_none {sts : List Stmt} : DB X c GN GB RK Γ sts none := fun o h => nomatch h
theorem db_nil (n : N) (l : EnvLe Γ (GN n)) (hp : pinsIn (c.M.map (·.1)) (GN n) = true := by rfl) : DB X c GN GB RK Γ [] (some (.nx n)) := fun o h σ H D E f => by
  cases h
  exact sSs_of pss_nil (f.nx n rfl σ H (E.le l (pinsIn_iff hp)) (Mono.refl H))
theorem db_pass {pos : Pos} {m : Option (Fl N B R)} (h : DB X c GN GB RK Γ rest m) : DB X c GN GB RK Γ (.Pass pos :: rest) m := fun o e σ H D E f => sSs_cons ps_pass (h o e σ H D E f)
theorem db_break {pos : Pos} (b : B) (l : EnvLe Γ (GB b)) (hp : pinsIn (c.M.map (·.1)) (GB b) = true := by rfl) : DB X c GN GB RK Γ (.Break pos :: rest) (some (.bk b)) := fun o h σ H D E f => by
  cases h
  exact sSs_cons ps_break (f.bk b rfl σ H (E.le l (pinsIn_iff hp)) (Mono.refl H))
theorem db_cont {pos : Pos} (b : B) (l : EnvLe Γ (GB b)) (hp : pinsIn (c.M.map (·.1)) (GB b) = true := by rfl) : DB X c GN GB RK Γ (.Continue pos :: rest) (some (.ct b)) := fun o h σ H D E f => by
  cases h
  exact sSs_cons ps_continue (f.ct b rfl σ H (E.le l (pinsIn_iff hp)) (Mono.refl H))
/-! x = e -/
theorem db_asg (i : Nat) {x : Str} {e : Expr} {me : Option D} {mr : D → Option (Fl N B R)} {pos pos' : Pos} (hN : X.N.Nodup) (he : DE X c Γ e me) (hr : ∀ d, DB X c GN GB RK (Γ.set i (.imm d)) rest (mr d)) (hi : X.N[i]? = some x := by rfl) (hx : Loc X.env.scope x := by first | exact Or.inl rfl | exact Or.inr rfl)
    (hm : (c.M.map (·.1)).contains i = false := by rfl) (hs : swapsWith e (some (.Name x pos')) pos.line X.env = pure false := by rfl) (hf : X.fn x = true ∨ X.env.scope.names.lookup x = some .local := by first | exact .inl rfl | exact .inr rfl) :
    DB X c GN GB RK Γ (.Assign [.Name x pos'] e pos :: rest) (me.bind mr) := fun o h σ H D E f => by
  obtain ⟨d, e1, e2⟩ := Option.bind_eq_some_iff.mp h
  exact sSs_cons (ps_set hN hi hx (pe_s e) hs hf) (he d e1 σ H _ E fun v H1 s1 r1 => hr d o e2 _ H1 D ((E.same s1).setImm r1 (noPin hm)) (f.mono (.of_same s1)))
theorem db_asgF (i : Nat) {x : Str} {e : Expr} {me : Option (List D)} {mr : List D → Option (Fl N B R)} {pos pos' : Pos} (hN : X.N.Nodup) (he : DF X c Γ e me) (hr : ∀ d, DB X c GN GB RK (Γ.set i (.own d)) rest (mr d)) (hi : X.N[i]? = some x := by rfl) (hx : Loc X.env.scope x := by first | exact Or.inl rfl | exact Or.inr rfl)
    (hm : (c.M.map (·.1)).contains i = false := by rfl) (hs : swapsWith e (some (.Name x pos')) pos.line X.env = pure false := by rfl) (hf : X.fn x = true ∨ X.env.scope.names.lookup x = some .local := by first | exact .inl rfl | exact .inr rfl) :
    DB X c GN GB RK Γ (.Assign [.Name x pos'] e pos :: rest) (me.bind mr) := fun o h σ H D E f => by
  obtain ⟨d, e1, e2⟩ := Option.bind_eq_some_iff.mp h
  exact sSs_cons (ps_set hN hi hx (pe_s e) hs hf) (he d e1 σ H _ E fun a H1 xs hn s1 ha r1 => hr d o e2 _ H1 D ((E.same s1).setOwn ha r1 (E.notOwn hn) (E.fresh0 hn) (noPin hm)) (f.mono (.of_same s1)))
/-- e's value taken apart -/
theorem db_unp {P : Type} {js : List Nat} {tg e : Expr} {me : Option D} {pm : D → Option P} {Gt : P → Env_} {mr : P → Option (Fl N B R)} {pos : Pos} (he : DE X c Γ e me) (ht : DG X c js Γ tg pm Gt) (hr : ∀ p, DB X c GN GB RK (Gt p) rest (mr p))
    (hs : swapsWithSole [tg] e pos.line X.env = pure false := by rfl) (hw : swappedStores [tg] e X.env = pure none := by rfl) (h1 : (assignEach [tg] X.env).map (·.2) = [assign tg X.env] := by rfl) : DB X c GN GB RK Γ (.Assign [tg] e pos :: rest) ((me.bind pm).bind mr) := fun o h σ H D E f => by
  obtain ⟨p, e0, e2⟩ := Option.bind_eq_some_iff.mp h
  obtain ⟨d, e1, e3⟩ := Option.bind_eq_some_iff.mp e0
  exact sSs_cons (ps_asg (pe_s e) (pg_s tg) hs hw h1) (he d e1 σ H _ E fun v H1 s1 r1 => ht d p e3 v σ H1 _ (E.same s1) r1 fun σ' E' _ => hr p o e2 _ H1 D E' (f.mono (.of_same s1)))
/-! a bare expression, a return -/
theorem db_expr {e : Expr} {me : Option D} {mr : Option (Fl N B R)} {pos : Pos} (he : DE X c Γ e me) (hr : DB X c GN GB RK Γ rest mr) (hs : swapsWith e none pos.line X.env = pure false := by rfl) : DB X c GN GB RK Γ (.Expr e pos :: rest) (me.bind fun _ => mr) := fun o h σ H D E f => by
  obtain ⟨d, e1, e2⟩ := Option.bind_eq_some_iff.mp h
  exact sSs_cons (ps_expr (pe_s e) hs) (he d e1 σ H _ E fun v H1 s1 r1 => hr o e2 _ H1 D (E.same s1) (f.mono (.of_same s1)))
theorem db_ret {e : Expr} {me : Option D} {g : D → R} {pos : Pos} (he : DE X c Γ e me) (hg : ∀ d v σ H, EnvOk X.K c σ H Γ → Rp X.K H v d → RK (g d) v H) : DB X c GN GB RK Γ (.Return (some e) pos :: rest) (me.map fun d => .rt (g d)) := fun o h σ H D E f => by
  obtain ⟨d, e1, rfl⟩ := Option.map_eq_some_iff.mp h
  exact sSs_cons (ps_ret (pe_s e)) (he d e1 σ H _ E fun v H1 s1 r1 => f.rt _ rfl v H1 (hg d v σ H1 (E.same s1) r1))
theorem db_retF {e : Expr} {me : Option (List D)} {g : List D → R} {pos : Pos} (he : DF X c Γ e me) (hg : ∀ d a xs σ H, EnvOk X.K c σ H Γ → c.H0 a = none → H a = some (.lst xs) → RpA X.K H xs d → RK (g d) (.ref a) H) : DB X c GN GB RK Γ (.Return (some e) pos :: rest) (me.map fun d => .rt (g d)) := fun o h σ H D E f => by
  obtain ⟨d, e1, rfl⟩ := Option.map_eq_some_iff.mp h
  exact sSs_cons (ps_ret (pe_s e)) (he d e1 σ H _ E fun a H1 xs hn s1 ha r1 => f.rt _ rfl _ H1 (hg d a xs σ H1 (E.same s1) (E.fresh0 hn) ha r1))
/-- return of a list that a slot holds (not one handed in) -/
theorem db_retOwn (i : Nat) {x : Str} {ds : List D} {g : List D → R} {pos pos' : Pos} (h : Γ[i]? = some (.own ds) := by rfl) (hg : ∀ a xs σ H, EnvOk X.K c σ H Γ → c.H0 a = none → H a = some (.lst xs) → RpA X.K H xs ds → RK (g ds) (.ref a) H) (hm : (c.M.map (·.1)).contains i = false := by rfl)
    (hN : X.N[i]? = some x := by rfl) (hv : Vis X.env.scope x := by first | exact Or.inl rfl | exact Or.inr (Or.inl rfl) | exact Or.inr (Or.inr rfl)) (hd : (x == ("__debug__" : Str)) = false := by decide) (hcd : (x == ("__classdict__" : Str)) = false := by decide) :
    DB X c GN GB RK Γ (.Return (some (.Name x pos')) pos :: rest) (some (.rt (g ds))) := fun o h' σ H D E f => by
  cases h'
  obtain ⟨a, xs, e, ha, r⟩ := E.cells i _ h
  refine sSs_cons (ps_ret (pe_var hN hv hd hcd)) ⟨_, e, f.rt _ rfl _ H (hg a xs σ H E ?_ ha r)⟩
  rcases E.new a ⟨i, _, h, rfl, e⟩ with ⟨p, hp, ep⟩ | z
  · exfalso
    obtain ⟨h1, k, h2, h3⟩ := E.pins p hp
    have hne : p.1 ≠ i := noPin hm p hp
    rw [ep] at h1
    exact E.apart p.1 i k _ a hne h2 h3 h rfl h1 e
  · exact z
/-! if -/
def seqFl {N1 : Type} (mr : N1 → Option (Fl N B R)) : Fl N1 B R → Option (Fl N B R)
  | .nx n => mr n
  | .bk b => some (.bk b)
  | .ct b => some (.ct b)
  | .rt r => some (.rt r)
theorem seq_fin {N1 : Type} {G1 : N1 → Env_} {mr : N1 → Option (Fl N B R)} {H : Hp} {D : Ends} {o1 : Fl N1 B R} {o : Fl N B R} (h : seqFl mr o1 = some o) (hr : ∀ n, DB X c GN GB RK (G1 n) rest (mr n)) (f : Fin_ X.K c GN GB RK H o D) : Fin_ X.K c G1 GB RK H o1 { D with nx := sSs X rest D } := by
  cases o1 with
  | nx n => exact ⟨(fun n' e σ' H' E m => by cases e; exact hr n o h σ' H' D E (f.mono m)), (fun b e => nomatch e), (fun b e => nomatch e), (fun b e => nomatch e)⟩
  | bk b =>
    cases h
    exact ⟨(fun b e => nomatch e), (fun b' e => by cases e; exact f.bk b rfl), (fun b e => nomatch e), (fun b e => nomatch e)⟩
  | ct b =>
    cases h
    exact ⟨(fun b e => nomatch e), (fun b e => nomatch e), (fun b' e => by cases e; exact f.ct b rfl), (fun b e => nomatch e)⟩
  | rt r =>
    cases h
    exact ⟨(fun b e => nomatch e), (fun b e => nomatch e), (fun b e => nomatch e), (fun b' e => by cases e; exact f.rt r rfl)⟩
theorem db_if {N1 : Type} (G1 : N1 → Env_) {t : Expr} {a b : List Stmt} {mt : Option Bool} {ma mb : Option (Fl N1 B R)} {mr : N1 → Option (Fl N B R)} {pos : Pos} (ht : DT X c Γ t mt) (ha : DB X c G1 GB RK Γ a ma) (hb : DB X c G1 GB RK Γ b mb) (hr : ∀ n, DB X c GN GB RK (G1 n) rest (mr n)) :
    DB X c GN GB RK Γ (.If t a b pos :: rest) ((iteO mt ma mb).bind (seqFl mr)) := fun o h σ H D E f => by
  obtain ⟨o1, e1, e2⟩ := Option.bind_eq_some_iff.mp h
  obtain ⟨x, e3, e4⟩ := Option.bind_eq_some_iff.mp e1
  refine sSs_cons (ps_if (pt_s t) (pss_s a) (pss_s b)) (ht x e3 σ H _ E fun H1 s1 => ?_)
  cases x with
  | true => exact iteT (ha o1 e4 σ H1 _ (E.same s1) (seq_fin e2 hr (f.mono (.of_same s1))))
  | false => exact iteF (hb o1 e4 σ H1 _ (E.same s1) (seq_fin e2 hr (f.mono (.of_same s1))))
/-! for -/
inductive Lp (L R : Type) where
  | nx (l : L) | rt (r : R)
def forF {L R : Type} (f : L → D → Option (Fl L L R)) : List D → L → Option (Lp L R)
  | [], l => some (.nx l)
  | x :: r, l => (f l x).bind fun o => match o with
    | .nx l' => forF f r l'
    | .ct l' => forF f r l'
    | .bk l' => some (.nx l')
    | .rt z => some (.rt z)
def seqLp {L : Type} (mr : L → Option (Fl N B R)) : Lp L R → Option (Fl N B R)
  | .nx n => mr n
  | .rt r => some (.rt r)
theorem for_core {L P : Type} {GL : L → Env_} {js : List Nat} {tg : Expr} {body : List Stmt} {pm : D → Option P} {Gt : L → P → Env_} {mb : L → P → Option (Fl L L R)} {mr : L → Option (Fl N B R)} {J : It} {ds : List D} {Gd : Hp → Prop} {σ : St} {H : Hp} {D : Ends} {l0 : L} {o : Fl N B R} {z : Lp L R}
    (ht : ∀ l, DG X c js (GL l) tg pm (Gt l)) (hb : ∀ l p, DB X c GL GL RK (Gt l p) body (mb l p)) (hr : ∀ l, DB X c GN GB RK (GL l) rest (mr l))
    (hz : forF (fun l x => (pm x).bind (mb l)) ds l0 = some z) (ho : seqLp mr z = some o) (i : ItD X.K J ds Gd) (g : Gd H) (E : EnvOk X.K c σ H (GL l0)) (f : Fin_ X.K c GN GB RK H o D) :
    ∃ W : Nat → Nat → St → Hp → Prop, (∃ m, W 0 m σ H) ∧ ∀ i m σ H, W i m σ H →
      (J.stop i H ∧ (sSs X rest D) σ H) ∨ (J.go i H ∧ ∃ N : St → Hp → Prop, (∀ σ' H', N σ' H' → ∃ m', m' < m ∧ W (i + 1) m' σ' H') ∧ ∀ x H', J.yld i H x H' → sG X tg x σ H' fun σ2 H2 => sSs X body { { D with nx := sSs X rest D } with nx := N, ct := N, bk := sSs X rest D } σ2 H2) := by
  refine ⟨fun j m σ' H' => m = ds.length - j ∧ j ≤ ds.length ∧ Mono H H' ∧ ∃ l, EnvOk X.K c σ' H' (GL l) ∧ forF (fun l x => (pm x).bind (mb l)) (ds.drop j) l = some z, ⟨ds.length, rfl, Nat.zero_le _, Mono.refl H, l0, E, hz⟩, ?_⟩
  rintro j m σ' H' ⟨rfl, hj, mo, l, E', hz'⟩
  by_cases hlt : j < ds.length
  · right
    have hd : ds[j]? = some ds[j] := List.getElem?_eq_getElem hlt
    rw [List.drop_eq_getElem_cons hlt] at hz'
    obtain ⟨o1, e1, e2⟩ := Option.bind_eq_some_iff.mp hz'
    obtain ⟨p, e3, e4⟩ := Option.bind_eq_some_iff.mp e1
    refine ⟨i.goes j H' hlt (i.stays H H' g mo), fun σ'' H'' => Mono H H'' ∧ ∃ l, EnvOk X.K c σ'' H'' (GL l) ∧ forF (fun l x => (pm x).bind (mb l)) (ds.drop (j + 1)) l = some z, fun σ'' H'' ⟨m2, l2, E2, h2⟩ => ⟨ds.length - (j + 1), by omega, rfl, hlt, m2, l2, E2, h2⟩, fun x H2 y => ?_⟩
    obtain ⟨s2, r2⟩ := i.yields j H' x H2 _ hd (i.stays H H' g mo) y
    refine ht l _ p e3 x σ' H2 _ (E'.same s2) r2 fun σ3 E3 _ => hb l p o1 e4 σ3 H2 _ E3 ?_
    have m12 : Mono H H2 := mo.trans (.of_same s2)
    cases o1 with
    | nx l' => exact ⟨(fun n' e σ' H' E m => by cases e; exact ⟨m12.trans m, l', E, e2⟩), (fun b e => nomatch e), (fun b e => nomatch e), (fun b e => nomatch e)⟩
    | ct l' => exact ⟨(fun b e => nomatch e), (fun b e => nomatch e), (fun n' e σ' H' E m => by cases e; exact ⟨m12.trans m, l', E, e2⟩), (fun b e => nomatch e)⟩
    | bk l' =>
      cases e2
      exact ⟨(fun b e => nomatch e), (fun n' e σ' H' E m => by cases e; exact hr l' o ho σ' H' D E (f.mono (m12.trans m))), (fun b e => nomatch e), (fun b e => nomatch e)⟩
    | rt r =>
      cases e2
      cases ho
      exact ⟨(fun b e => nomatch e), (fun b e => nomatch e), (fun b e => nomatch e), (fun b' e => by cases e; exact f.rt r rfl)⟩
  · left
    have e : j = ds.length := by omega
    subst e
    rw [List.drop_length] at hz'
    cases hz'
    exact ⟨i.stops H' (i.stays H H' g mo), hr l o ho σ' H' D E' (f.mono mo)⟩
theorem db_for {L P : Type} (GL : L → Env_) (l0 : L) {js : List Nat} {tg iter : Expr} {body : List Stmt} {pm : D → Option P} {Gt : L → P → Env_} {mi : Option (List D)} {mb : L → P → Option (Fl L L R)} {mr : L → Option (Fl N B R)} {pos : Pos} (hc : X.calm = true) (hx : X.xe = fun _ _ => False) (hi : DI X c Γ tg iter mi) (hl : EnvLe Γ (GL l0))
    (ht : ∀ l, DG X c js (GL l) tg pm (Gt l)) (hb : ∀ l p, DB X c GL GL RK (Gt l p) body (mb l p)) (hr : ∀ l, DB X c GN GB RK (GL l) rest (mr l)) (hp : pinsIn (c.M.map (·.1)) (GL l0) = true := by rfl) (hs : ∀ x, foldedSetIterable iter X.env x = pure x := by intro _; rfl) :
    DB X c GN GB RK Γ (.For tg iter body [] pos :: rest) ((mi.bind fun its => forF (fun l x => (pm x).bind (mb l)) its l0).bind (seqLp mr)) := fun o h σ H D E f => by
  obtain ⟨z, e1, e2⟩ := Option.bind_eq_some_iff.mp h
  obtain ⟨ds, e3, e4⟩ := Option.bind_eq_some_iff.mp e1
  have hpo : PassesOwn (model X.prog X.w) X.A X.env X.xe := by rw [hx]; exact PassesOwn.never
  refine sSs_cons (ps_for hpo hc (pi_s tg iter) (pg_s tg) (pss_s body) hs) (hi ds e3 σ H _ E fun J H1 Gd s1 i g => ?_)
  exact for_core ht hb hr e4 e2 i g ((E.same s1).le hl (pinsIn_iff hp)) (f.mono (.of_same s1))
/-! while -/
def whileF {L R : Type} (t : L → Option Bool) (f : L → Option (Fl L L R)) : Nat → L → Option (Lp L R)
  | 0, _ => none
  | n + 1, l => (t l).bind fun b => if b then (f l).bind fun o => match o with
    | .nx l' => whileF t f n l'
    | .ct l' => whileF t f n l'
    | .bk l' => some (.nx l')
    | .rt z => some (.rt z)
    else some (.nx l)
theorem db_while {L : Type} (GL : L → Env_) (l0 : L) (fuel : Nat) {t : Expr} {body : List Stmt} {mt : L → Option Bool} {mb : L → Option (Fl L L R)} {mr : L → Option (Fl N B R)} {pos : Pos} (hx : X.xe = fun _ _ => False) (hl : EnvLe Γ (GL l0))
    (ht : ∀ l, DT X c (GL l) t (mt l)) (hb : ∀ l, DB X c GL GL RK (GL l) body (mb l)) (hr : ∀ l, DB X c GN GB RK (GL l) rest (mr l)) (hp : pinsIn (c.M.map (·.1)) (GL l0) = true := by rfl) :
    DB X c GN GB RK Γ (.While t body [] pos :: rest) ((whileF mt mb fuel l0).bind (seqLp mr)) := fun o h σ H D E f => by
  obtain ⟨z, e1, e2⟩ := Option.bind_eq_some_iff.mp h
  have hpo : PassesOwn (model X.prog X.w) X.A X.env X.xe := by rw [hx]; exact PassesOwn.never
  refine sSs_cons (ps_while hpo (pt_s t) (pss_s body)) ⟨fun n σ' H' => Mono H H' ∧ ∃ l, EnvOk X.K c σ' H' (GL l) ∧ whileF mt mb n l = some z, ⟨fuel, Mono.refl H, l0, E.le hl (pinsIn_iff hp), e1⟩, ?_⟩
  rintro n σ' H' ⟨mo, l, E', hz⟩
  cases n with
  | zero => cases hz
  | succ n =>
    obtain ⟨b, e3, e4⟩ := Option.bind_eq_some_iff.mp hz
    refine ht l b e3 σ' H' _ E' fun H1 s1 => ?_
    have m1 : Mono H H1 := mo.trans (.of_same s1)
    cases b with
    | false =>
      rw [if_neg Bool.false_ne_true] at e4
      cases e4
      exact iteF (hr l o e2 σ' H1 D (E'.same s1) (f.mono m1))
    | true =>
      rw [if_pos rfl] at e4
      obtain ⟨o1, e5, e6⟩ := Option.bind_eq_some_iff.mp e4
      refine iteT ⟨fun σ'' H'' => Mono H H'' ∧ ∃ l, EnvOk X.K c σ'' H'' (GL l) ∧ whileF mt mb n l = some z, fun σ'' H'' q => ⟨n, Nat.lt_succ_self n, q⟩, hb l o1 e5 σ' H1 _ (E'.same s1) ?_⟩
      cases o1 with
      | nx l' => exact ⟨(fun n' e σ' H' E m => by cases e; exact ⟨m1.trans m, l', E, e6⟩), (fun b e => nomatch e), (fun b e => nomatch e), (fun b e => nomatch e)⟩
      | ct l' => exact ⟨(fun b e => nomatch e), (fun b e => nomatch e), (fun n' e σ' H' E m => by cases e; exact ⟨m1.trans m, l', E, e6⟩), (fun b e => nomatch e)⟩
      | bk l' =>
        cases e6
        exact ⟨(fun b e => nomatch e), (fun n' e σ' H' E m => by cases e; exact hr l' o e2 σ' H' D E (f.mono (m1.trans m))), (fun b e => nomatch e), (fun b e => nomatch e)⟩
      | rt r =>
        cases e6
        cases e2
        exact ⟨(fun b e => nomatch e), (fun b e => nomatch e), (fun b e => nomatch e), (fun b' e => by cases e; exact f.rt r rfl)⟩
/-! lists that slots hold -/
/-- xs.append(e) -/
def appD (ds : List D) (d : D) : Option (List D) := if ds.length < 100000 then some (ds ++ [d]) else none
theorem db_append (i : Nat) {ds : List D} {x : Str} {e : Expr} {me : Option D} {mr : List D → Option (Fl N B R)} {pos p1 p2 p3 : Pos} (h : Γ[i]? = some (.own ds) := by rfl) (he : DE X c Γ e me) (hr : ∀ es, DB X c GN GB RK (Γ.set i (.own es)) rest (mr es)) (hN : X.N[i]? = some x := by rfl) (hv : Vis X.env.scope x := by first | exact Or.inl rfl | exact Or.inr (Or.inl rfl) | exact Or.inr (Or.inr rfl))
    (na : starEach [e] X.env = (false, eval e X.env) :: starEach [] X.env := by rfl)
    (hfew : ((backTo p3 (starEach [e] X.env)).all (fun x => !x.1) && (backToKw p3 (keywordEach [] X.env)).all (fun x => x.1.isSome) && decide (([e] : List Expr).length + ([] : List Keyword).length + (if ([] : List Keyword).isEmpty then 0 else 1) < 30)) = true := by rfl)
    (hs : swapsWith (.Call (.Attribute (.Name x p1) "append" p2) [e] [] p3) none pos.line X.env = pure false := by rfl) (hb : attributeBase (.Name x p1) "append" X.env (eval (.Name x p1) X.env) = eval (.Name x p1) X.env := by rfl) (hln : (p2.endLine == p3.line) = true := by rfl) (hd : (x == ("__debug__" : Str)) = false := by decide) (hcd : (x == ("__classdict__" : Str)) = false := by decide) :
    DB X c GN GB RK Γ (.Expr (.Call (.Attribute (.Name x p1) "append" p2) [e] [] p3) pos :: rest) ((me.bind (appD ds)).bind mr) := fun o h' σ H D E f => by
  obtain ⟨es, e0, e2⟩ := Option.bind_eq_some_iff.mp h'
  obtain ⟨d, e1, e3⟩ := Option.bind_eq_some_iff.mp e0
  unfold appD at e3
  split at e3
  · rename_i hz
    cases e3
    refine sSs_cons (ps_expr (pe_bm PySem.F.plainAttrs_list PySem.F.slot_list_append PySem.F.type_list_append mt_append (pe_var hN hv hd hcd) (pa_cons (pe_s e) pa_nil na) (hbase := hb) (hfew := hfew) (hline := hln) (hs := na)) hs) ?_
    obtain ⟨a, xs, ea, ha, r⟩ := E.ownAt h
    refine ⟨_, ea, .inl ⟨rfl, _, .inl (.inl ha)⟩, he d e1 σ H _ E fun v H1 s1 r1 => ⟨a, xs, v, rfl, rfl, s1 _ _ ha, ?_, ?_⟩⟩
    · rw [r.length]
      exact Nat.lt_of_lt_of_le hz (by decide)
    · have mo : Mono H1 (upd H1 a (.lst (xs ++ [v]))) := ⟨fun b zs hb => by rw [upd_ne (ne_of hb (s1 _ _ ha) (by intro z; cases z))]; exact hb, fun b o u hb => by rw [upd_ne (ne_of hb (s1 _ _ ha) (by intro z; cases z))]; exact hb⟩
      have E1 := (E.same s1).write (es := ds ++ [d]) (ys := xs ++ [v]) h ea (H' := upd H1 a (.lst (xs ++ [v]))) (fun b o hb hne => by rw [upd_ne hne]; exact hb) upd_same (((r.mono (.of_same s1)).snoc r1).mono mo)
      exact hr _ o e2 σ _ D E1 (f.mono ((Mono.of_same s1).trans mo))
  · cases e3
end
end DL

set_option Elab.async false
set_option linter.all false
set_option maxRecDepth 100000
set_option maxHeartbeats 2000000
set_option autoImplicit false
namespace DL
open PySem PySem.Spec PyProof.Rows L2
/-! ### what a name is given: a value that stands still, a new list -/
inductive Kd : Type → Type 1 where
  | imm : Kd D
  | own : Kd (List D)
def Kd.cell : {α : Type} → Kd α → α → Cell
  | _, .imm, d => .imm d
  | _, .own, ds => .own ds
def Kd.isOwn : {α : Type} → Kd α → Bool
  | _, .imm => false
  | _, .own => true
def Kd.has (K : Fr_) (c : FC) (Γ : Env_) (σ : St) (H : Hp) (v : V) : {α : Type} → Kd α → α → Prop
  | _, .imm, d => Rp K H v d
  | _, .own, ds => ∃ a xs, v = .ref a ∧ H a = some (.lst xs) ∧ RpA K H xs ds ∧ ¬ Owns Γ σ a ∧ c.H0 a = none
theorem Kd.put {K : Fr_} {c : FC} {Γ : Env_} {σ : St} {H : Hp} {v : V} {α : Type} {κ : Kd α} {a : α} {i : Nat} (E : EnvOk K c σ H Γ) (h : κ.has K c Γ σ H v a) (hm : ∀ p ∈ c.M, p.1 ≠ i) : EnvOk K c (σ.set i (some v)) H (Γ.set i (κ.cell a)) := by
  cases κ with
  | imm => exact E.setImm h hm
  | own =>
    obtain ⟨ad, xs, rfl, ha, r, hn, h0⟩ := h
    exact E.setOwn ha r hn h0 hm
/-- another value stays what it is when v is stored -/
theorem Kd.keep {K : Fr_} {c : FC} {Γ : Env_} {σ : St} {H : Hp} {v w : V} {α β : Type} {κ : Kd α} {μ : Kd β} {a : α} {b : β} {i : Nat} (E : EnvOk K c σ H Γ) (h : κ.has K c Γ σ H v a) (g : μ.has K c Γ σ H w b) (hne : κ.isOwn = true → μ.isOwn = true → v ≠ w) : μ.has K c (Γ.set i (κ.cell a)) (σ.set i (some v)) H w b := by
  cases μ with
  | imm => exact g
  | own =>
    obtain ⟨ad, xs, rfl, ha, r, hn, h0⟩ := g
    refine ⟨ad, xs, rfl, ha, r, fun ⟨j, k, e1, e2, e3⟩ => ?_, h0⟩
    by_cases ej : i = j
    · subst ej
      have hk : k = κ.cell a := by
        rw [List.getElem?_set] at e1
        simp at e1
        exact e1.2.symm
      have hv : v = .ref ad := by
        rw [List.getElem?_set] at e3
        simp at e3
        exact e3.2
      cases κ with
      | imm =>
        subst hk
        cases e2
      | own => exact hne rfl rfl hv
    · rw [List.getElem?_set_ne ej] at e1 e3
      exact hn ⟨j, k, e1, e2, e3⟩
theorem Kd.step {K : Fr_} {c : FC} {Γ Γ' : Env_} {σ : St} {H H' : Hp} {w : V} {β : Type} {μ : Kd β} {b : β} (E : EnvOk K c σ H Γ) (g : μ.has K c Γ σ H w b) (s : Step Γ Γ' σ H H') : μ.has K c Γ' σ H' w b := by
  cases μ with
  | imm => exact Rp.mono (s.mono E) g
  | own =>
    obtain ⟨ad, xs, rfl, ha, r, hn, h0⟩ := g
    exact ⟨ad, xs, rfl, s.1 _ _ ha hn, r.mono (s.mono E), fun o => hn (s.2 _ o), h0⟩
theorem Kd.there {K : Fr_} {c : FC} {Γ : Env_} {σ : St} {H : Hp} {w : V} {β : Type} {μ : Kd β} {b : β} (g : μ.has K c Γ σ H w b) (ho : μ.isOwn = true) : ∃ a, w = .ref a ∧ H a ≠ none := by
  cases μ with
  | imm => cases ho
  | own =>
    obtain ⟨ad, xs, rfl, ha, r, hn, h0⟩ := g
    exact ⟨ad, rfl, by rw [ha]; intro z; cases z⟩
section
variable (X : Cx) (c : FC) {T : Type} (G : T → Env_)
def DXK {α : Type} (κ : Kd α) (e : Expr) (m : T → Option (α × T)) : Prop := ∀ t a t', m t = some (a, t') → ∀ (σ : St) (H : Hp) (Q : VK), EnvOk X.K c σ H (G t) →
  (∀ v H', EnvOk X.K c σ H' (G t') → Step (G t) (G t') σ H H' → κ.has X.K c (G t') σ H' v a → (κ.isOwn = true → ∀ ad, v = .ref ad → H ad = none) → Q v H') → sE X e σ H Q
end
section
variable {X : Cx} {c : FC} {T : Type} {G : T → Env_}
theorem dxk_imm {e : Expr} {m : T → Option (D × T)} (h : DX X c G e m) : DXK X c G .imm e m := fun t a t' hm σ H Q E k => h t a t' hm σ H Q E fun v H' E' s r => k v H' E' s r fun z => nomatch z
theorem dxk_own {e : Expr} {m : T → Option (List D × T)} (h : DXF X c G e m) : DXK X c G .own e m := fun t a t' hm σ H Q E k => h t a t' hm σ H Q E fun ad H' xs hn E' s ha r =>
  k _ H' E' s ⟨ad, xs, rfl, ha, r, fun o => E.notOwn hn (s.2 _ o), E.fresh0 hn⟩ fun _ b e => by cases e; exact hn
variable {N B R : Type} {GN : N → Env_} {GB : B → Env_} {RK : R → V → Hp → Prop} {rest : List Stmt}
/-! statements -/
theorem dbx_asg {α : Type} (κ : Kd α) (i : Nat) {x : Str} {e : Expr} {m : T → Option (α × T)} {mr : α × T → Option (Fl N B R)} {pos pos' : Pos} {t : T} (hN : X.N.Nodup) (he : DXK X c G κ e m) (hr : ∀ q : α × T, DB X c GN GB RK ((G q.2).set i (κ.cell q.1)) rest (mr q)) (hi : X.N[i]? = some x := by rfl) (hx : Loc X.env.scope x := by first | exact Or.inl rfl | exact Or.inr rfl)
    (hm : (c.M.map (·.1)).contains i = false := by rfl) (hs : swapsWith e (some (.Name x pos')) pos.line X.env = pure false := by rfl) (hf : X.fn x = true ∨ X.env.scope.names.lookup x = some .local := by first | exact .inl rfl | exact .inr rfl) :
    DB X c GN GB RK (G t) (.Assign [.Name x pos'] e pos :: rest) ((m t).bind mr) := fun o h σ H D E f => by
  obtain ⟨⟨d, t'⟩, e1, e2⟩ := Option.bind_eq_some_iff.mp h
  exact sSs_cons (ps_set hN hi hx (pe_s e) hs hf) (he t d t' e1 σ H _ E fun v H1 E1 s1 r1 _ => hr (d, t') o e2 _ H1 D (Kd.put E1 r1 (noPin hm)) (f.mono (s1.mono E)))
theorem dbx_unp {P : Type} {js : List Nat} {tg e : Expr} {m : T → Option (D × T)} {pm : D → Option P} {Gt : T → P → Env_} {mr : P × T → Option (Fl N B R)} {pos : Pos} {t : T} (he : DX X c G e m) (ht : ∀ t', DG X c js (G t') tg pm (Gt t')) (hr : ∀ q : P × T, DB X c GN GB RK (Gt q.2 q.1) rest (mr q))
    (hs : swapsWithSole [tg] e pos.line X.env = pure false := by rfl) (hw : swappedStores [tg] e X.env = pure none := by rfl) (h1 : (assignEach [tg] X.env).map (·.2) = [assign tg X.env] := by rfl) : DB X c GN GB RK (G t) (.Assign [tg] e pos :: rest) ((bindX m pm t).bind mr) := fun o h σ H D E f => by
  obtain ⟨⟨p, t'⟩, e0, e2⟩ := Option.bind_eq_some_iff.mp h
  obtain ⟨d, e1, e3⟩ := bindX_eq e0
  exact sSs_cons (ps_asg (pe_s e) (pg_s tg) hs hw h1) (he t d t' e1 σ H _ E fun v H1 E1 s1 r1 => ht t' d p e3 v σ H1 _ E1 r1 fun σ' E' _ => hr (p, t') o e2 _ H1 D E' (f.mono (s1.mono E)))
def two {α β : Type} (a : T → Option (α × T)) (b : T → Option (β × T)) : T → Option ((α × β) × T) := fun t => (a t).bind fun p => (b p.2).map fun q => ((p.1, q.1), q.2)
def three {α β γ : Type} (a : T → Option (α × T)) (b : T → Option (β × T)) (d : T → Option (γ × T)) : T → Option ((α × β × γ) × T) := fun t => (a t).bind fun p => (b p.2).bind fun q => (d q.2).map fun r => ((p.1, q.1, r.1), r.2)
/-- a, b = e1, e2 -/
theorem dbx_par {α β : Type} (κ : Kd α) (μ : Kd β) (i j : Nat) {x y : Str} {a b : Expr} {ma : T → Option (α × T)} {mb : T → Option (β × T)} {mr : (α × β) × T → Option (Fl N B R)} {px py pt pos : Pos} {kt k2 : Nat} {pt2 : Pos} {t : T} (hc : X.calm = true) (hN : X.N.Nodup)
    (ha : DXK X c G κ a ma) (hb : DXK X c G μ b mb) (hr : ∀ q : (α × β) × T, DB X c GN GB RK (((G q.2).set i (κ.cell q.1.1)).set j (μ.cell q.1.2)) rest (mr q)) (hi : X.N[i]? = some x := by rfl) (hj : X.N[j]? = some y := by rfl) (hij : i ≠ j := by decide)
    (hm : (c.M.map (·.1)).contains i = false := by rfl) (hm' : (c.M.map (·.1)).contains j = false := by rfl) (hx : X.env.scope.names.lookup x = some .local := by rfl) (hy : X.env.scope.names.lookup y = some .local := by rfl)
    (hw : swappedStores [.Tuple [.Name x px, .Name y py] kt pt] (.Tuple [a, b] k2 pt2) X.env = pure (some [x, y]) := by rfl) (hs : swapsWithSole [.Tuple [.Name x px, .Name y py] kt pt] (.Tuple [a, b] k2 pt2) pos.line X.env = pure false := by rfl) (na : NoStar X [a, b] := by exact ⟨rfl, rfl, trivial⟩) :
    DB X c GN GB RK (G t) (.Assign [.Tuple [.Name x px, .Name y py] kt pt] (.Tuple [a, b] k2 pt2) pos :: rest) ((two ma mb t).bind mr) := fun o h σ H D E f => by
  obtain ⟨⟨⟨u, w⟩, t'⟩, e0, e2⟩ := Option.bind_eq_some_iff.mp h
  obtain ⟨⟨u', t1⟩, e3, e4⟩ := Option.bind_eq_some_iff.mp e0
  obtain ⟨⟨w', t2⟩, e5, e6⟩ := Option.map_eq_some_iff.mp e4
  cases e6
  refine sSs_cons (ps_par hc hN hi hj hij hx hy (pa_s na) hw hs) ?_
  refine ha t _ t1 e3 σ H _ E fun v H1 E1 s1 r1 n1 => hb t1 _ _ e5 σ H1 _ E1 fun v2 H2 E2 s2 r2 n2 => ⟨v, v2, rfl, ?_⟩
  have r1' := Kd.step E1 r1 s2
  refine hr _ o e2 _ H2 D (Kd.put (Kd.put E2 r1' (noPin hm)) (Kd.keep E2 r1' r2 fun z1 z2 => ?_) (noPin hm')) (f.mono ((s1.trans s2).mono E))
  obtain ⟨ad, ea, ha'⟩ := Kd.there r1 z1
  intro z
  exact ha' (n2 z2 ad (z ▸ ea))
theorem dbx_par3 {α β γ : Type} (κ : Kd α) (μ : Kd β) (ν : Kd γ) (i j l : Nat) {x y z : Str} {a b d : Expr} {ma : T → Option (α × T)} {mb : T → Option (β × T)} {md : T → Option (γ × T)} {mr : (α × β × γ) × T → Option (Fl N B R)} {px py pz pt pos : Pos} {kt k2 : Nat} {pt2 : Pos} {t : T} (hc : X.calm = true) (hN : X.N.Nodup)
    (ha : DXK X c G κ a ma) (hb : DXK X c G μ b mb) (hd : DXK X c G ν d md) (hr : ∀ q : (α × β × γ) × T, DB X c GN GB RK ((((G q.2).set i (κ.cell q.1.1)).set j (μ.cell q.1.2.1)).set l (ν.cell q.1.2.2)) rest (mr q)) (hi : X.N[i]? = some x := by rfl) (hj : X.N[j]? = some y := by rfl) (hl : X.N[l]? = some z := by rfl) (hij : i ≠ j := by decide) (hil : i ≠ l := by decide) (hjl : j ≠ l := by decide)
    (hm : (c.M.map (·.1)).contains i = false := by rfl) (hm' : (c.M.map (·.1)).contains j = false := by rfl) (hm'' : (c.M.map (·.1)).contains l = false := by rfl) (hx : X.env.scope.names.lookup x = some .local := by rfl) (hy : X.env.scope.names.lookup y = some .local := by rfl) (hz : X.env.scope.names.lookup z = some .local := by rfl)
    (hw : swappedStores [.Tuple [.Name x px, .Name y py, .Name z pz] kt pt] (.Tuple [a, b, d] k2 pt2) X.env = pure (some [x, y, z]) := by rfl) (hs : swapsWithSole [.Tuple [.Name x px, .Name y py, .Name z pz] kt pt] (.Tuple [a, b, d] k2 pt2) pos.line X.env = pure false := by rfl) (na : NoStar X [a, b, d] := by exact ⟨rfl, rfl, rfl, trivial⟩) :
    DB X c GN GB RK (G t) (.Assign [.Tuple [.Name x px, .Name y py, .Name z pz] kt pt] (.Tuple [a, b, d] k2 pt2) pos :: rest) ((three ma mb md t).bind mr) := fun o h σ H D E f => by
  obtain ⟨⟨⟨u, w, q⟩, t'⟩, e0, e2⟩ := Option.bind_eq_some_iff.mp h
  obtain ⟨⟨u', t1⟩, e3, e4⟩ := Option.bind_eq_some_iff.mp e0
  obtain ⟨⟨w', t2⟩, e5, e6⟩ := Option.bind_eq_some_iff.mp e4
  obtain ⟨⟨q', t3⟩, e7, e8⟩ := Option.map_eq_some_iff.mp e6
  cases e8
  refine sSs_cons (ps_par3 hc hN hi hj hl hij hil hjl hx hy hz (pa_s na) hw hs) ?_
  refine ha t _ t1 e3 σ H _ E fun v H1 E1 s1 r1 n1 => hb t1 _ t2 e5 σ H1 _ E1 fun v2 H2 E2 s2 r2 n2 => hd t2 _ _ e7 σ H2 _ E2 fun v3 H3 E3 s3 r3 n3 => ⟨v, v2, v3, rfl, ?_⟩
  have r1' := Kd.step E1 r1 s2
  have r1'' := Kd.step E2 r1' s3
  have r2' := Kd.step E2 r2 s3
  have d12 : κ.isOwn = true → μ.isOwn = true → v ≠ v2 := fun z1 z2 => by
    obtain ⟨ad, ea, ha'⟩ := Kd.there r1 z1
    intro z
    exact ha' (n2 z2 ad (z ▸ ea))
  have d13 : κ.isOwn = true → ν.isOwn = true → v ≠ v3 := fun z1 z2 => by
    obtain ⟨ad, ea, ha'⟩ := Kd.there r1' z1
    intro z
    exact ha' (n3 z2 ad (z ▸ ea))
  have d23 : μ.isOwn = true → ν.isOwn = true → v2 ≠ v3 := fun z1 z2 => by
    obtain ⟨ad, ea, ha'⟩ := Kd.there r2 z1
    intro z
    exact ha' (n3 z2 ad (z ▸ ea))
  have k2 := Kd.keep (i := i) E3 r1'' r2' d12
  have k3 := Kd.keep (i := i) E3 r1'' r3 d13
  have P1 := Kd.put E3 r1'' (noPin hm)
  exact hr _ o e2 _ H3 D (Kd.put (Kd.put P1 k2 (noPin hm')) (Kd.keep P1 k2 k3 d23) (noPin hm'')) (f.mono (((s1.trans s2).trans s3).mono E))
theorem dbx_expr {e : Expr} {m : T → Option (D × T)} {mr : D × T → Option (Fl N B R)} {pos : Pos} {t : T} (he : DX X c G e m) (hr : ∀ q : D × T, DB X c GN GB RK (G q.2) rest (mr q)) (hs : swapsWith e none pos.line X.env = pure false := by rfl) : DB X c GN GB RK (G t) (.Expr e pos :: rest) ((m t).bind mr) := fun o h σ H D E f => by
  obtain ⟨⟨d, t'⟩, e1, e2⟩ := Option.bind_eq_some_iff.mp h
  exact sSs_cons (ps_expr (pe_s e) hs) (he t d t' e1 σ H _ E fun v H1 E1 s1 r1 => hr (d, t') o e2 _ H1 D E1 (f.mono (s1.mono E)))
theorem dbx_ret {e : Expr} {m : T → Option (D × T)} {g : D × T → R} {pos : Pos} {t : T} (he : DX X c G e m) (hg : ∀ d t' v σ H, EnvOk X.K c σ H (G t') → Rp X.K H v d → RK (g (d, t')) v H) : DB X c GN GB RK (G t) (.Return (some e) pos :: rest) ((m t).map fun p => .rt (g p)) := fun o h σ H D E f => by
  obtain ⟨⟨d, t'⟩, e1, rfl⟩ := Option.map_eq_some_iff.mp h
  exact sSs_cons (ps_ret (pe_s e)) (he t d t' e1 σ H _ E fun v H1 E1 s1 r1 => f.rt _ rfl v H1 (hg d t' v σ H1 E1 r1))
theorem dbx_retF {e : Expr} {m : T → Option (List D × T)} {g : List D × T → R} {pos : Pos} {t : T} (he : DXF X c G e m) (hg : ∀ d t' a xs σ H, EnvOk X.K c σ H (G t') → c.H0 a = none → (∀ p ∈ c.M, p.2 ≠ a) → H a = some (.lst xs) → RpA X.K H xs d → RK (g (d, t')) (.ref a) H) : DB X c GN GB RK (G t) (.Return (some e) pos :: rest) ((m t).map fun p => .rt (g p)) := fun o h σ H D E f => by
  obtain ⟨⟨d, t'⟩, e1, rfl⟩ := Option.map_eq_some_iff.mp h
  refine sSs_cons (ps_ret (pe_s e)) (he t d t' e1 σ H _ E fun a H1 xs hn E1 s1 ha r1 => f.rt _ rfl _ H1 (hg d t' a xs σ H1 E1 (E.fresh0 hn) (fun p hp e => ?_) ha r1))
  obtain ⟨h1, k, h2, h3⟩ := E.pins p hp
  obtain ⟨ys, z⟩ := E.owned ⟨p.1, k, h2, h3, h1⟩
  rw [e, hn] at z
  cases z
theorem dbx_if {N1 : Type} (G1 : N1 → Env_) {te : Expr} {a b : List Stmt} {mt : T → Option (Bool × T)} {ma mb : Bool × T → Option (Fl N1 B R)} {mr : N1 → Option (Fl N B R)} {pos : Pos} {t : T} (ht : DXT X c G te mt) (ha : ∀ q : Bool × T, DB X c G1 GB RK (G q.2) a (ma q)) (hb : ∀ q : Bool × T, DB X c G1 GB RK (G q.2) b (mb q)) (hr : ∀ n, DB X c GN GB RK (G1 n) rest (mr n)) :
    DB X c GN GB RK (G t) (.If te a b pos :: rest) (((mt t).bind fun p => if p.1 then ma p else mb p).bind (seqFl mr)) := fun o h σ H D E f => by
  obtain ⟨o1, e1, e2⟩ := Option.bind_eq_some_iff.mp h
  obtain ⟨⟨x, t'⟩, e3, e4⟩ := Option.bind_eq_some_iff.mp e1
  refine sSs_cons (ps_if (pt_s te) (pss_s a) (pss_s b)) (ht t x t' e3 σ H _ E fun H1 E1 s1 => ?_)
  cases x with
  | true => exact iteT (ha (true, t') o1 e4 σ H1 _ E1 (seq_fin e2 hr (f.mono (s1.mono E))))
  | false => exact iteF (hb (false, t') o1 e4 σ H1 _ E1 (seq_fin e2 hr (f.mono (s1.mono E))))
theorem dbx_for {L P : Type} (GL : L → Env_) (l0 : T → L) {js : List Nat} {tg iter : Expr} {body : List Stmt} {pm : D → Option P} {Gt : L → P → Env_} {mi : T → Option (List D × T)} {mb : L → P → Option (Fl L L R)} {mr : L → Option (Fl N B R)} {pos : Pos} {t : T} (hc : X.calm = true) (hx : X.xe = fun _ _ => False) (hi : DXI X c G tg iter mi) (hl : ∀ t', EnvLe (G t') (GL (l0 t')))
    (ht : ∀ l, DG X c js (GL l) tg pm (Gt l)) (hb : ∀ l p, DB X c GL GL RK (Gt l p) body (mb l p)) (hr : ∀ l, DB X c GN GB RK (GL l) rest (mr l)) (hp : ∀ t', pinsIn (c.M.map (·.1)) (GL (l0 t')) = true := by intro _; rfl) (hs : ∀ x, foldedSetIterable iter X.env x = pure x := by intro _; rfl) :
    DB X c GN GB RK (G t) (.For tg iter body [] pos :: rest) (((mi t).bind fun q => forF (fun l x => (pm x).bind (mb l)) q.1 (l0 q.2)).bind (seqLp mr)) := fun o h σ H D E f => by
  obtain ⟨z, e1, e2⟩ := Option.bind_eq_some_iff.mp h
  obtain ⟨⟨ds, t'⟩, e3, e4⟩ := Option.bind_eq_some_iff.mp e1
  have hpo : PassesOwn (model X.prog X.w) X.A X.env X.xe := by rw [hx]; exact PassesOwn.never
  refine sSs_cons (ps_for hpo hc (pi_s tg iter) (pg_s tg) (pss_s body) hs) (hi t ds t' e3 σ H _ E fun J H1 Gd E1 s1 i g => ?_)
  exact for_core ht hb hr e4 e2 i g (E1.le (hl t') (pinsIn_iff (hp t'))) (f.mono (s1.mono E))
def bindX' {α β : Type} (m : T → Option (α × T)) (g : α → T → Option β) : T → Option (β × T) := fun t => (m t).bind fun p => (g p.1 p.2).map fun z => (z, p.2)
theorem dbx_append (ds : T → List D) {x : Str} {e : Expr} {m : T → Option (D × T)} {mr : List D × T → Option (Fl N B R)} {pos p1 p2 p3 : Pos} {t : T} (j : Nat) (he : DX X c G e m) (h : ∀ t', (G t')[j]? = some (.own (ds t'))) (hr : ∀ q : List D × T, DB X c GN GB RK ((G q.2).set j (.own q.1)) rest (mr q)) (hN : X.N[j]? = some x := by rfl) (hv : Vis X.env.scope x := by first | exact Or.inl rfl | exact Or.inr (Or.inl rfl) | exact Or.inr (Or.inr rfl))
    (na : starEach [e] X.env = (false, eval e X.env) :: starEach [] X.env := by rfl)
    (hfew : ((backTo p3 (starEach [e] X.env)).all (fun x => !x.1) && (backToKw p3 (keywordEach [] X.env)).all (fun x => x.1.isSome) && decide (([e] : List Expr).length + ([] : List Keyword).length + (if ([] : List Keyword).isEmpty then 0 else 1) < 30)) = true := by rfl)
    (hs : swapsWith (.Call (.Attribute (.Name x p1) "append" p2) [e] [] p3) none pos.line X.env = pure false := by rfl) (hb : attributeBase (.Name x p1) "append" X.env (eval (.Name x p1) X.env) = eval (.Name x p1) X.env := by rfl) (hln : (p2.endLine == p3.line) = true := by rfl) (hd : (x == ("__debug__" : Str)) = false := by decide) (hcd : (x == ("__classdict__" : Str)) = false := by decide) :
    DB X c GN GB RK (G t) (.Expr (.Call (.Attribute (.Name x p1) "append" p2) [e] [] p3) pos :: rest) ((bindX' m (fun d t' => appD (ds t') d) t).bind mr) := fun o h' σ H D E f => by
  obtain ⟨⟨es, t'⟩, e0, e2⟩ := Option.bind_eq_some_iff.mp h'
  obtain ⟨⟨d, t1⟩, e1, e3⟩ := Option.bind_eq_some_iff.mp e0
  obtain ⟨es', e4, e5⟩ := Option.map_eq_some_iff.mp e3
  cases e5
  replace e4 : appD (ds t1) d = some es := e4
  unfold appD at e4
  split at e4
  · rename_i hz
    cases e4
    refine sSs_cons (ps_expr (pe_bm PySem.F.plainAttrs_list PySem.F.slot_list_append PySem.F.type_list_append mt_append (pe_var hN hv hd hcd) (pa_cons (pe_s e) pa_nil na) (hbase := hb) (hfew := hfew) (hline := hln) (hs := na)) hs) ?_
    obtain ⟨a, xs, ea, ha, r⟩ := E.ownAt (h t)
    refine ⟨_, ea, .inl ⟨rfl, _, .inl (.inl ha)⟩, he t d _ e1 σ H _ E fun v H1 E1 s1 r1 => ?_⟩
    obtain ⟨a', ys, ea', ha', r'⟩ := E1.ownAt (h _)
    rw [ea] at ea'
    cases ea'
    refine ⟨a, ys, v, rfl, rfl, ha', ?_, ?_⟩
    · rw [r'.length]
      exact Nat.lt_of_lt_of_le hz (by decide)
    · have mo : Mono H1 (upd H1 a (.lst (ys ++ [v]))) := ⟨fun b zs hb => by rw [upd_ne (ne_of hb ha' (by intro z; cases z))]; exact hb, fun b o u hb => by rw [upd_ne (ne_of hb ha' (by intro z; cases z))]; exact hb⟩
      have E2 := E1.write (es := ds _ ++ [d]) (ys := ys ++ [v]) (h _) ea (H' := upd H1 a (.lst (ys ++ [v]))) (fun b o hb hne => by rw [upd_ne hne]; exact hb) upd_same ((r'.snoc r1).mono mo)
      exact hr _ o e2 σ _ D E2 (f.mono ((s1.mono E).trans mo))
  · cases e4
end
end DL

set_option Elab.async false
set_option linter.all false
set_option maxRecDepth 100000
set_option maxHeartbeats 2000000
set_option autoImplicit false
namespace DL
open PySem PySem.Spec PyProof.Rows L2
section
variable {X : Cx} {c : FC} {Γ : Env_} {N B R : Type} {GN : N → Env_} {GB : B → Env_} {RK : R → V → Hp → Prop} {rest : List Stmt}
/-! xs[i] = e -/
def setD (ds : List D) (i d : D) : Option (List D) := (isI i).bind fun k => (ixN ds.length k).map fun j => ds.set j d
theorem set_core {σ : St} {H : Hp} {j : Nat} {ds es : List D} {d q : D} {v w : V} {a : Addr} {xs : List V} {Q : Hp → Prop} (E : EnvOk X.K c σ H Γ) (h : Γ[j]? = some (.own ds)) (ea : σ[j]? = some (some (.ref a))) (ha : H a = some (.lst xs)) (r : RpA X.K H xs ds) (rv : Rp X.K H v d) (rw_ : Rp X.K H w q)
    (e : setD ds q d = some es) (k : ∀ H', Mono H H' → EnvOk X.K c σ H' (Γ.set j (.own es)) → Q H') : rSetL (.ref a) w v H Q := by
  obtain ⟨kk, e1, e2⟩ := Option.bind_eq_some_iff.mp e
  obtain ⟨jj, e3, rfl⟩ := Option.map_eq_some_iff.mp e2
  have e4 := isI_eq e1
  subst e4
  refine ⟨a, xs, kk, jj, rfl, RpW.int (.st rw_), ha, by rw [r.length]; exact e3, ?_⟩
  have mo : Mono H (upd H a (.lst (xs.set jj v))) := ⟨fun b zs hb => by rw [upd_ne (ne_of hb ha (by intro z; cases z))]; exact hb, fun b o u hb => by rw [upd_ne (ne_of hb ha (by intro z; cases z))]; exact hb⟩
  exact k _ mo (E.write (es := ds.set jj d) (ys := xs.set jj v) h ea (H' := upd H a (.lst (xs.set jj v))) (fun b o hb hne => by rw [upd_ne hne]; exact hb) upd_same ((RpA.set rv jj r).mono mo))
theorem db_set (j : Nat) {ds : List D} {x : Str} {e i : Expr} {me mi : Option D} {mr : List D → Option (Fl N B R)} {pos p1 p2 : Pos} (he : DE X c Γ e me) (hi : DE X c Γ i mi) (hr : ∀ es, DB X c GN GB RK (Γ.set j (.own es)) rest (mr es)) (h : Γ[j]? = some (.own ds) := by rfl) (hN : X.N[j]? = some x := by rfl) (hv : Vis X.env.scope x := by first | exact Or.inl rfl | exact Or.inr (Or.inl rfl) | exact Or.inr (Or.inr rfl))
    (hs : swapsWithSole [.Subscript (.Name x p1) i p2] e pos.line X.env = pure false := by rfl) (hw : swappedStores [.Subscript (.Name x p1) i p2] e X.env = pure none := by rfl) (h1 : (assignEach [.Subscript (.Name x p1) i p2] X.env).map (·.2) = [assign (.Subscript (.Name x p1) i p2) X.env] := by rfl)
    (ha : ∀ v, assign (.Subscript (.Name x p1) i p2) X.env v = (do
      let ov ← holding [v] (eval (.Name x p1) X.env)
      let iv ← holding [v, ov] (eval i X.env)
      standAt p2
      holding [v, ov, iv] (setItem ov iv v)
      release [v, ov, iv] []) := by intro _; rfl) (hd : (x == ("__debug__" : Str)) = false := by decide) (hcd : (x == ("__classdict__" : Str)) = false := by decide) :
    DB X c GN GB RK Γ (.Assign [.Subscript (.Name x p1) i p2] e pos :: rest) ((me.bind fun d => mi.bind fun q => setD ds q d).bind mr) := fun o h' σ H D E f => by
  obtain ⟨es, e0, e2⟩ := Option.bind_eq_some_iff.mp h'
  obtain ⟨d, e1, e3⟩ := Option.bind_eq_some_iff.mp e0
  obtain ⟨q, e4, e5⟩ := Option.bind_eq_some_iff.mp e3
  refine sSs_cons (ps_asg (pe_s e) (pg_sub (pe_var hN hv hd hcd) (pe_s i) set_list ha) hs hw h1) (he d e1 σ H _ E fun v H1 s1 r1 => ?_)
  obtain ⟨a, xs, ea, hl, r⟩ := (E.same s1).ownAt h
  refine ⟨_, ea, hi q e4 σ H1 _ (E.same s1) fun w H2 s2 r2 => ?_⟩
  exact set_core ((E.same s1).same s2) h ea (s2 _ _ hl) (r.mono (.of_same s2)) (r1.mono (.of_same s2)) r2 e5 fun H' mo E' => hr _ o e2 σ H' D E' (f.mono ((Mono.of_same (s1.trans s2)).trans mo))
/-! a held list stands still from here on -/
theorem db_frz (i : Nat) {ds : List D} {sts : List Stmt} {m : Option (Fl N B R)} (hr : DB X c GN GB RK (Γ.set i (.imm (.list ds))) sts m) (h : Γ[i]? = some (.own ds) := by rfl) (hm : (c.M.map (·.1)).contains i = false := by rfl) : DB X c GN GB RK Γ sts m := fun o e σ H D E f => fun pins s I => by
  obtain ⟨a, xs, ea, ha, r⟩ := E.ownAt h
  obtain ⟨od, I1⟩ := I.lock ha trivial
  have hil : i < Γ.length := (List.getElem?_eq_some_iff.mp h).1
  have keep : ∀ b u, H b = some u → b ≠ a → upd H a (.frz od (.lst xs)) b = some u := fun b u hb hne => by
    rw [upd_ne hne]
    exact hb
  have mo : Mono H (upd H a (.frz od (.lst xs))) := ⟨fun b zs hb => keep b _ hb (ne_of hb ha (by intro z; cases z)), fun b o u hb => keep b _ hb (ne_of hb ha (by intro z; cases z))⟩
  have back : ∀ {j : Nat} {q : Cell}, (Γ.set i (.imm (.list ds)))[j]? = some q → q.isOwn = true → j ≠ i ∧ Γ[j]? = some q := fun {j q} h1 h2 => by
    by_cases ej : i = j
    · subst ej
      rw [List.getElem?_set_self hil] at h1
      cases h1
      cases h2
    · rw [List.getElem?_set_ne ej] at h1
      exact ⟨fun z => ej z.symm, h1⟩
  have hna : ∀ j q, j ≠ i → Γ[j]? = some q → q.isOwn = true → σ[j]? = some (some (.ref a)) → False := fun j q hj h1 h2 h3 => E.apart i j _ q a (Ne.symm hj) h rfl h1 h2 ea h3
  have E' : EnvOk X.K c σ (upd H a (.frz od (.lst xs))) (Γ.set i (.imm (.list ds))) := by
    refine ⟨fun j k hk => ?_, fun j l k q b hjl h1 h2 h3 h4 h5 h6 => E.apart j l k q b hjl (back h1 h2).2 h2 (back h3 h4).2 h4 h5 h6, fun b u hb hM => keep b u (E.pres b u hb hM) fun z => ?_, fun b ⟨j, k, h1, h2, h3⟩ => E.new b ⟨j, k, (back h1 h2).2, h2, h3⟩, fun p hp => ?_, by rw [List.length_set]; exact E.len⟩
    · by_cases ej : i = j
      · subst ej
        rw [List.getElem?_set_self hil] at hk
        cases hk
        exact ⟨_, ea, .lst (.inl ⟨od, upd_same⟩) (r.mono mo)⟩
      · rw [List.getElem?_set_ne ej] at hk
        have z := E.cells j k hk
        cases k with
        | any => trivial
        | imm d =>
          obtain ⟨v, e1, r1⟩ := z
          exact ⟨v, e1, r1.mono mo⟩
        | own fs =>
          obtain ⟨b, zs, e1, hb, r1⟩ := z
          exact ⟨b, zs, e1, keep b _ hb fun q' => hna j _ (fun z => ej z.symm) hk rfl (q' ▸ e1), r1.mono mo⟩
    · rcases E.new a ⟨i, _, h, rfl, ea⟩ with ⟨p, hp, ep⟩ | z0
      · exact hM p hp (ep.trans z.symm)
      · rw [z, z0] at hb
        cases hb
    · obtain ⟨h1, k, h2, h3⟩ := E.pins p hp
      refine ⟨h1, k, ?_, h3⟩
      rw [List.getElem?_set_ne (Ne.symm (noPin hm p hp))]
      exact h2
  exact hr o e σ _ D E' (f.mono mo) pins s I1
/-! displays with stars -/
/-- an argument list's own meaning, stars and all -/
def sA (X : Cx) (es : List Expr) : TA := fun σ H Q => ∀ (pos : Pos) (pins : List (Addr × Obj)) (s : Shared), Inv X pins σ H s → wpAny (model X.prog X.w) X.A (spliced (backTo pos (starEach es X.env))) (AP X pins σ Q) X.xe s
theorem pa_sA (es : List Expr) : PA X es (sA X es) := ⟨fun pos pins s _ _ _ I h => h pos pins s I⟩
theorem sA_of {es : List Expr} {t : TA} {σ : St} {H : Hp} {Q : List V → Hp → Prop} (h : PA X es t) (q : t σ H Q) : sA X es σ H Q := fun pos pins s I => h.run pos pins s σ H Q I q
end
section
variable (X : Cx) (c : FC) (Γ : Env_)
def DAs (es : List Expr) (m : Option (List D)) : Prop := ∀ ds, m = some ds → ∀ (σ : St) (H : Hp) (Q : List V → Hp → Prop), EnvOk X.K c σ H Γ → (∀ vs H', Same H H' → RpA X.K H' vs ds → Q vs H') → sA X es σ H Q
end
section
variable (X : Cx) (c : FC) {T : Type} (G : T → Env_)
def DXAs (es : List Expr) (m : T → Option (List D × T)) : Prop := ∀ t ds t', m t = some (ds, t') → ∀ (σ : St) (H : Hp) (Q : List V → Hp → Prop), EnvOk X.K c σ H (G t) → (∀ vs H', EnvOk X.K c σ H' (G t') → Step (G t) (G t') σ H H' → RpA X.K H' vs ds → Q vs H') → sA X es σ H Q
end
section
variable {X : Cx} {c : FC} {Γ : Env_}
theorem das_nil : DAs X c Γ [] (some []) := fun ds hd σ H Q E k => by
  cases hd
  exact sA_of pa_nil (k [] H (Same.refl H) .nil)
theorem das_cons {e : Expr} {es : List Expr} {m : Option D} {ms : Option (List D)} (h : DE X c Γ e m) (hs : DAs X c Γ es ms) (hst : starEach (e :: es) X.env = (false, eval e X.env) :: starEach es X.env := by rfl) : DAs X c Γ (e :: es) (consO m ms) := fun ds hd σ H Q E k => by
  obtain ⟨x, e1, e2⟩ := Option.bind_eq_some_iff.mp hd
  obtain ⟨xs, e3, rfl⟩ := Option.map_eq_some_iff.mp e2
  exact sA_of (pa_cons (pe_s e) (pa_sA es) hst) (h x e1 σ H _ E fun v H1 s1 r1 => hs xs e3 σ H1 _ (E.same s1) fun vs H2 s2 r2 => k _ _ (s1.trans s2) (.cons (r1.mono (.of_same s2)) r2))
def starO (m : Option D) (ms : Option (List D)) : Option (List D) := (m.bind iterD).bind fun x => ms.map (x ++ ·)
theorem RpW.items {K : Fr_} {H : Hp} {v : V} {d : D} {ds : List D} (r : RpW K H v d) (e : iterD d = some ds) : ∃ p xs, v = .ref p ∧ (SqT K H p xs ∨ SqL K H p xs) ∧ RpA K H xs ds := by
  cases d with
  | list ds' =>
    cases e
    obtain ⟨a, xs, rfl, h, q⟩ := r.list
    exact ⟨a, xs, rfl, .inr h, q⟩
  | tuple ds' =>
    cases e
    obtain ⟨a, xs, rfl, h, q⟩ := r.tuple
    exact ⟨a, xs, rfl, .inl h, q⟩
  | _ => cases e
theorem das_star {e : Expr} {es : List Expr} {p : Pos} {m : Option D} {ms : Option (List D)} (h : DW X c Γ e m) (hs : DAs X c Γ es ms) (hst : starEach (.Starred e p :: es) X.env = (true, eval e X.env) :: starEach es X.env := by rfl) : DAs X c Γ (.Starred e p :: es) (starO m ms) := fun ds hd σ H Q E k => by
  obtain ⟨x, e1, e2⟩ := Option.bind_eq_some_iff.mp hd
  obtain ⟨d, e0, e4⟩ := Option.bind_eq_some_iff.mp e1
  obtain ⟨xs, e3, rfl⟩ := Option.map_eq_some_iff.mp e2
  refine sA_of (StX.pa_star (pe_s e) (pa_sA es) hst) (h d e0 σ H _ E fun v H1 s1 r1 => ?_)
  obtain ⟨a, ys, rfl, hq, r⟩ := r1.items e4
  exact ⟨a, ys, rfl, hq, hs xs e3 σ H1 _ (E.same s1) fun vs H2 s2 r2 => k _ _ (s1.trans s2) ((r.mono (.of_same s2)).append r2)⟩
theorem de_tupS {es : List Expr} {m : Option (List D)} {x1 : Nat} {pos : Pos} (h : DAs X c Γ es m) : DE X c Γ (.Tuple es x1 pos) ((lenOk m).map .tuple) := fun d hd σ H Q E k => by
  obtain ⟨ds, e0, rfl⟩ := Option.map_eq_some_iff.mp hd
  obtain ⟨ds', e1, e2⟩ := Option.bind_eq_some_iff.mp e0
  split at e2
  · rename_i hl
    cases e2
    refine sE_of (pe_tup (pa_sA es)) (h _ e1 σ H _ E fun vs H1 s1 r1 => ⟨?_, fun p hp => ?_⟩)
    · rw [r1.length]
      exact Nat.le_trans hl (by decide)
    · exact k _ _ (s1.trans (Same.new hp)) (.tup (SqT.of upd_same) (r1.mono (.of_same (Same.new hp))))
  · cases e2
theorem df_lstS {es : List Expr} {m : Option (List D)} {pos : Pos} (h : DAs X c Γ es m) : DF X c Γ (.List es pos) (lenOk m) := fun d hd σ H Q E k => by
  obtain ⟨ds', e1, e2⟩ := Option.bind_eq_some_iff.mp hd
  split at e2
  · rename_i hl
    cases e2
    refine sE_of (pe_lst (pa_sA es)) (h _ e1 σ H _ E fun vs H1 s1 r1 => ⟨?_, fun p hp => ?_⟩)
    · rw [r1.length]
      exact Nat.le_trans hl (by decide)
    · exact k _ _ _ (s1.free hp) (s1.trans (Same.new hp)) upd_same (r1.mono (.of_same (Same.new hp)))
  · cases e2
end
section
variable {X : Cx} {c : FC} {T : Type} {G : T → Env_}
theorem dxas_nil : DXAs X c G [] (fun t => some ([], t)) := fun t ds t' hd σ H Q E k => by
  cases hd
  exact sA_of pa_nil (k [] H E (.refl E) .nil)
theorem dxas_cons {e : Expr} {es : List Expr} {m : T → Option (D × T)} {ms : T → Option (List D × T)} (h : DX X c G e m) (hs : DXAs X c G es ms) (hst : starEach (e :: es) X.env = (false, eval e X.env) :: starEach es X.env := by rfl) : DXAs X c G (e :: es) (consX m ms) := fun t ds t' hd σ H Q E k => by
  obtain ⟨⟨x, t1⟩, e1, e2⟩ := Option.bind_eq_some_iff.mp hd
  obtain ⟨⟨xs, t2⟩, e3, e4⟩ := Option.map_eq_some_iff.mp e2
  cases e4
  exact sA_of (pa_cons (pe_s e) (pa_sA es) hst) (h t x t1 e1 σ H _ E fun v H1 E1 s1 r1 => hs t1 xs _ e3 σ H1 _ E1 fun vs H2 E2 s2 r2 => k _ _ E2 (s1.trans s2) (.cons (r1.mono (s2.mono E1)) r2))
def starX (m : T → Option (D × T)) (ms : T → Option (List D × T)) : T → Option (List D × T) := fun t => (bindX m iterD t).bind fun p => (ms p.2).map fun q => (p.1 ++ q.1, q.2)
theorem dxas_star {e : Expr} {es : List Expr} {p : Pos} {m : T → Option (D × T)} {ms : T → Option (List D × T)} (h : DX X c G e m) (hs : DXAs X c G es ms) (hst : starEach (.Starred e p :: es) X.env = (true, eval e X.env) :: starEach es X.env := by rfl) : DXAs X c G (.Starred e p :: es) (starX m ms) := fun t ds t' hd σ H Q E k => by
  obtain ⟨⟨x, t1⟩, e1, e2⟩ := Option.bind_eq_some_iff.mp hd
  obtain ⟨d, e0, e5⟩ := bindX_eq e1
  obtain ⟨⟨xs, t2⟩, e3, e4⟩ := Option.map_eq_some_iff.mp e2
  cases e4
  refine sA_of (StX.pa_star (pe_s e) (pa_sA es) hst) (h t d t1 e0 σ H _ E fun v H1 E1 s1 r1 => ?_)
  cases d with
  | list ds' =>
    cases e5
    cases r1 with
    | lst hz r => exact ⟨_, _, rfl, .inr hz.sq, hs t1 xs _ e3 σ H1 _ E1 fun vs H2 E2 s2 r2 => k _ _ E2 (s1.trans s2) ((r.mono (s2.mono E1)).append r2)⟩
  | tuple ds' =>
    cases e5
    cases r1 with
    | tup hz r => exact ⟨_, _, rfl, .inl hz, hs t1 xs _ e3 σ H1 _ E1 fun vs H2 E2 s2 r2 => k _ _ E2 (s1.trans s2) ((r.mono (s2.mono E1)).append r2)⟩
  | _ => cases e5
theorem dx_tupS {es : List Expr} {m : T → Option (List D × T)} {x1 : Nat} {pos : Pos} (h : DXAs X c G es m) : DX X c G (.Tuple es x1 pos) (tupX m) := fun t d t' hd σ H Q E k => by
  obtain ⟨⟨ds, t1⟩, e0, e00⟩ := Option.map_eq_some_iff.mp hd
  cases e00
  obtain ⟨⟨ds', t2⟩, e1, e2⟩ := Option.bind_eq_some_iff.mp e0
  split at e2
  · rename_i hl
    cases e2
    refine sE_of (pe_tup (pa_sA es)) (h t _ _ e1 σ H _ E fun vs H1 E1 s1 r1 => ⟨?_, fun p hp => ?_⟩)
    · rw [r1.length]
      exact Nat.le_trans hl (by decide)
    · exact k _ _ (E1.same (Same.new hp)) (s1.trans (.of_same E1 (Same.new hp))) (.tup (SqT.of upd_same) (r1.mono (.of_same (Same.new hp))))
  · cases e2
theorem dxf_lstS {es : List Expr} {m : T → Option (List D × T)} {pos : Pos} (h : DXAs X c G es m) : DXF X c G (.List es pos) (lenOkX m) := fun t d t' hd σ H Q E k => by
  obtain ⟨⟨ds', t2⟩, e1, e2⟩ := Option.bind_eq_some_iff.mp hd
  split at e2
  · rename_i hl
    cases e2
    refine sE_of (pe_lst (pa_sA es)) (h t _ _ e1 σ H _ E fun vs H1 E1 s1 r1 => ⟨?_, fun p hp => ?_⟩)
    · rw [r1.length]
      exact Nat.le_trans hl (by decide)
    · exact k _ _ _ (s1.free E hp) (E1.same (Same.new hp)) (s1.trans (.of_same E1 (Same.new hp))) upd_same (r1.mono (.of_same (Same.new hp)))
  · cases e2
end
end DL

set_option Elab.async false
set_option linter.all false
set_option maxRecDepth 100000
set_option maxHeartbeats 2000000
set_option autoImplicit false
namespace DL
open PySem PySem.Spec PyProof.Rows L2
/-! ### comprehensions -/
theorem wipe_at (σ : St) (i : Nat) : ∀ vs : List Nat, (wipe σ vs)[i]? = if i ∈ vs then (σ[i]?).map (fun _ => none) else σ[i]?
  | [] => by simp [wipe]
  | v :: vs => by
    unfold wipe
    by_cases h : v = i
    · subst h
      rw [if_pos List.mem_cons_self, List.getElem?_set, if_pos rfl, wipe_length]
      by_cases hl : v < σ.length
      · rw [if_pos hl, List.getElem?_eq_getElem hl]
        rfl
      · rw [if_neg hl, List.getElem?_eq_none (by omega)]
        rfl
    · rw [List.getElem?_set_ne h, wipe_at σ i vs]
      have e : (i ∈ v :: vs) = (i ∈ vs) := by
        rw [List.mem_cons]
        exact propext ⟨fun z => z.resolve_left fun q => h q.symm, .inr⟩
      simp only [e]
theorem wipe_only {js vs : List Nat} {σ σ2 : St} (o : OnlyAt js (wipe σ vs) σ2) (h : ∀ j ∈ js, j ∈ vs) : wipe σ2 vs = wipe σ vs := by
  apply List.ext_getElem?
  intro i
  rw [wipe_at, wipe_at]
  by_cases hi : i ∈ vs
  · rw [if_pos hi, if_pos hi]
    have l : σ2.length = σ.length := by rw [o.1, wipe_length]
    by_cases hl : i < σ.length
    · rw [List.getElem?_eq_getElem hl, List.getElem?_eq_getElem (by omega : i < σ2.length)]
      rfl
    · rw [List.getElem?_eq_none (by omega), List.getElem?_eq_none (by omega)]
  · rw [if_neg hi, if_neg hi, o.2 i fun z => hi (h i z), wipe_at, if_neg hi]
def wipeC (Γ : Env_) : List Nat → Env_
  | [] => Γ
  | v :: vs => (wipeC Γ vs).set v .any
theorem EnvOk.setAny {K : Fr_} {c : FC} {σ : St} {H : Hp} {Γ : Env_} (E : EnvOk K c σ H Γ) {i : Nat} {o : Option V} (hm : ∀ p ∈ c.M, p.1 ≠ i) : EnvOk K c (σ.set i o) H (Γ.set i .any) := by
  have own_of : ∀ {j : Nat} {k : Cell}, (Γ.set i .any)[j]? = some k → k.isOwn = true → j ≠ i ∧ Γ[j]? = some k := fun {j k} h ho => by
    by_cases e : i = j
    · subst e
      rw [List.getElem?_set] at h
      simp at h
      obtain ⟨_, h⟩ := h
      subst h
      cases ho
    · rw [List.getElem?_set_ne e] at h
      exact ⟨fun q => e q.symm, h⟩
  refine ⟨fun j k h => ?_, fun j l k q a hjl h1 h2 h3 h4 h5 h6 => ?_, E.pres, fun a ⟨j, k, h1, h2, h3⟩ => ?_, fun p hp => ?_, by rw [List.length_set, List.length_set, E.len]⟩
  · by_cases e : i = j
    · subst e
      rw [List.getElem?_set] at h
      simp at h
      obtain ⟨_, h⟩ := h
      subst h
      trivial
    · rw [List.getElem?_set_ne e] at h ⊢
      exact E.cells j k h
  · obtain ⟨n1, g1⟩ := own_of h1 h2
    obtain ⟨n2, g2⟩ := own_of h3 h4
    rw [List.getElem?_set_ne (Ne.symm n1)] at h5
    rw [List.getElem?_set_ne (Ne.symm n2)] at h6
    exact E.apart j l k q a hjl g1 h2 g2 h4 h5 h6
  · obtain ⟨n1, g1⟩ := own_of h1 h2
    rw [List.getElem?_set_ne (Ne.symm n1)] at h3
    exact E.new a ⟨j, k, g1, h2, h3⟩
  · obtain ⟨h1, k, h2, h3⟩ := E.pins p hp
    have n := hm p hp
    rw [List.getElem?_set_ne (Ne.symm n), List.getElem?_set_ne (Ne.symm n)]
    exact ⟨h1, k, h2, h3⟩
theorem EnvOk.wipe {K : Fr_} {c : FC} {σ : St} {H : Hp} {Γ : Env_} (E : EnvOk K c σ H Γ) : ∀ {vs : List Nat}, (∀ v ∈ vs, ∀ p ∈ c.M, p.1 ≠ v) → EnvOk K c (L2.wipe σ vs) H (wipeC Γ vs)
  | [], _ => E
  | v :: vs, h => (EnvOk.wipe E fun w hw => h w (List.mem_cons_of_mem _ hw)).setAny (h v List.mem_cons_self)
def pinsOut (c : FC) (vs : List Nat) : Bool := vs.all fun v => !((c.M.map (·.1)).contains v)
theorem pinsOut_iff {c : FC} {vs : List Nat} (h : pinsOut c vs = true) : ∀ v ∈ vs, ∀ p ∈ c.M, p.1 ≠ v := fun v hv => noPin (by
  have q := List.all_eq_true.mp h v hv
  simpa using q)
/-- a clause's tests, their own meaning -/
def sTs (X : Cx) (ifs : List Expr) : TT := fun σ H Q => ∃ t : TT, PTs X ifs t ∧ t σ H Q
theorem pts_s {X : Cx} {ifs : List Expr} : PTs X ifs (sTs X ifs) := ⟨fun pins s σ H Q I ⟨t, h, q⟩ => h.run pins s σ H Q I q⟩
def DTs (X : Cx) (c : FC) (Γ : Env_) (ifs : List Expr) (m : Option Bool) : Prop := ∀ b, m = some b → ∀ (σ : St) (H : Hp) (Q : Bool → Hp → Prop), EnvOk X.K c σ H Γ → (∀ H', Same H H' → Q b H') → sTs X ifs σ H Q
def DXTs (X : Cx) (c : FC) {T : Type} (G : T → Env_) (ifs : List Expr) (m : T → Option (Bool × T)) : Prop := ∀ t b t', m t = some (b, t') → ∀ (σ : St) (H : Hp) (Q : Bool → Hp → Prop), EnvOk X.K c σ H (G t) → (∀ H', EnvOk X.K c σ H' (G t') → Step (G t) (G t') σ H H' → Q b H') → sTs X ifs σ H Q
section
variable {X : Cx} {c : FC} {Γ : Env_}
theorem dts_nil : DTs X c Γ [] (some true) := fun b hb σ H Q E k => by
  cases hb
  exact ⟨tYes, pts_nil, k H (Same.refl H)⟩
theorem dts_one {e : Expr} {m : Option Bool} (h : DT X c Γ e m) : DTs X c Γ [e] m := fun b hb σ H Q E k => ⟨_, pts_one (pt_s e), h b hb σ H Q E k⟩
theorem dxts_lift {T : Type} {G : T → Env_} {ifs : List Expr} {m : T → Option Bool} (h : ∀ t, DTs X c (G t) ifs (m t)) : DXTs X c G ifs (liftX m) := fun t d t' hd σ H Q E k => by
  obtain ⟨e1, rfl⟩ := liftX_eq hd
  exact h _ d e1 σ H Q E fun H' s => k H' (E.same s) (.of_same E s)
theorem dxts_one {T : Type} {G : T → Env_} {e : Expr} {m : T → Option (Bool × T)} (h : DXT X c G e m) : DXTs X c G [e] m := fun t b t' hb σ H Q E k => ⟨_, pts_one (pt_s e), h t b t' hb σ H Q E k⟩
end
abbrev Blk (X : Cx) (scope : Scope) (s : Shared) (H : Hp) (C : Addr) (cl : List (Str × Addr)) (fp : List Addr) : Cx := X.blk s H scope (compEnvC scope cl C X.env) fp
def gB (X : Cx) (scope : Scope) (tg : Expr) : TG := fun v σ H Q => ∀ s H0 C cl fp, sG (Blk X scope s H0 C cl fp) tg v σ H Q
def tB (X : Cx) (scope : Scope) (ifs : List Expr) : TT := fun σ H Q => ∀ s H0 C cl fp, sTs (Blk X scope s H0 C cl fp) ifs σ H Q
def eB (X : Cx) (scope : Scope) (e : Expr) : TE := fun σ H Q => ∀ s H0 C cl fp, sE (Blk X scope s H0 C cl fp) e σ H Q
section
variable {X : Cx} {scope : Scope}
theorem pg_B (tg : Expr) (s : Shared) (H0 : Hp) (C : Addr) (cl : List (Str × Addr)) (fp : List Addr) : PG (X.blk s H0 scope (compEnvC scope cl C X.env) fp) tg (gB X scope tg) := ⟨fun pins s2 σ H v u Q I r h => (pg_s tg).run pins s2 σ H v u Q I r (h s H0 C cl fp)⟩
theorem pt_B (ifs : List Expr) (s : Shared) (H0 : Hp) (C : Addr) (cl : List (Str × Addr)) (fp : List Addr) : PTs (X.blk s H0 scope (compEnvC scope cl C X.env) fp) ifs (tB X scope ifs) := ⟨fun pins s2 σ H Q I h => pts_s.run pins s2 σ H Q I (h s H0 C cl fp)⟩
theorem pe_B (e : Expr) (s : Shared) (H0 : Hp) (C : Addr) (cl : List (Str × Addr)) (fp : List Addr) : PE (X.blk s H0 scope (compEnvC scope cl C X.env) fp) e (eB X scope e) := ⟨fun pins s2 σ H Q I h => (pe_s e).run pins s2 σ H Q I (h s H0 C cl fp)⟩
end
def lcF {P : Type} (pm : D → Option P) (mt : P → Option Bool) (me : P → Option D) : List D → Option (List D)
  | [] => some []
  | x :: r => (pm x).bind fun p => (mt p).bind fun b => if b then (me p).bind fun d => (lcF pm mt me r).map (d :: ·) else lcF pm mt me r
section
variable {X : Cx} {c : FC} {Γ : Env_} {scope : Scope} {P : Type} {js vs : List Nat} {tg iter elt : Expr} {ifs : List Expr} {pm : D → Option P} {Gt : P → Env_} {mt : P → Option Bool} {me : P → Option D} {mi : Option (List D)}
theorem lc_sem {its total : List D} {σ : St} {H : Hp} {Q : VK} (hi : DI X c Γ tg iter mi) (hg : ∀ s H0 C cl fp, DG (Blk X scope s H0 C cl fp) c js (wipeC Γ vs) tg pm Gt) (ht : ∀ s H0 C cl fp p, DTs (Blk X scope s H0 C cl fp) c (Gt p) ifs (mt p)) (he : ∀ s H0 C cl fp p, DE (Blk X scope s H0 C cl fp) c (Gt p) elt (me p))
    (hp : pinsOut c vs = true) (hjs : ∀ j ∈ js, j ∈ vs) (e1 : mi = some its) (e2 : lcF pm mt me its = some total) (hlen : total.length ≤ 100000) (E : EnvOk X.K c σ H Γ)
    (k : ∀ a H' xs, H a = none → Same H H' → H' a = some (.lst xs) → RpA X.K H' xs total → Q (.ref a) H') : tLc (sI X tg iter) (gB X scope tg) (tB X scope ifs) (eB X scope elt) vs σ H Q := by
  refine hi its e1 σ H _ E fun J H1 Gd s1 i g => ?_
  intro D hD
  have hDH : H D = none := s1.free hD
  refine ⟨fun j m H2 => m = its.length - j ∧ j ≤ its.length ∧ Same H1 H2 ∧ ∃ acc done rest, H2 D = some (.lst acc) ∧ RpA X.K H2 acc done ∧ lcF pm mt me (its.drop j) = some rest ∧ done ++ rest = total,
    ⟨its.length, rfl, Nat.zero_le _, Same.new hD, [], [], total, upd_same, .nil, e2, rfl⟩, ?_⟩
  rintro j m H2 ⟨rfl, hj, sm, acc, done, rest, ha, ra, er, et⟩
  by_cases hlt : j < its.length
  · right
    have hd : its[j]? = some its[j] := List.getElem?_eq_getElem hlt
    rw [List.drop_eq_getElem_cons hlt] at er
    obtain ⟨p, e3, e4⟩ := Option.bind_eq_some_iff.mp er
    obtain ⟨b, e5, e6⟩ := Option.bind_eq_some_iff.mp e4
    have g2 := i.stays H1 H2 g (.of_same sm)
    refine ⟨i.goes j H2 hlt g2, fun H' => Same H1 H' ∧ ∃ acc done rest, H' D = some (.lst acc) ∧ RpA X.K H' acc done ∧ lcF pm mt me (its.drop (j + 1)) = some rest ∧ done ++ rest = total, fun H' q => ⟨its.length - (j + 1), by omega, rfl, hlt, q⟩, fun x H' y => ?_⟩
    obtain ⟨s2, r2⟩ := i.yields j H2 x H' _ hd g2 y
    have Eb : EnvOk X.K c (wipe σ vs) H' (wipeC Γ vs) := (((E.same s1).same (sm.trans s2))).wipe (pinsOut_iff hp)
    intro s H0 C cl fp
    refine hg s H0 C cl fp _ p e3 x (wipe σ vs) H' _ Eb r2 fun σ2 E2 o2 => ⟨wipe_only o2 hjs, ?_⟩
    intro s H0 C cl fp
    refine ht s H0 C cl fp p b e5 σ2 H' _ E2 fun H3 s3 => ?_
    have sa : Same H2 H3 := s2.trans s3
    cases b with
    | false =>
      rw [if_neg Bool.false_ne_true] at e6
      show ite _ _ _
      rw [if_neg Bool.false_ne_true]
      exact ⟨sm.trans sa, acc, done, rest, sa _ _ ha, ra.mono (.of_same sa), e6, et⟩
    | true =>
      rw [if_pos rfl] at e6
      obtain ⟨d, e7, e8⟩ := Option.bind_eq_some_iff.mp e6
      obtain ⟨rest', e9, rfl⟩ := Option.map_eq_some_iff.mp e8
      show ite _ _ _
      rw [if_pos rfl]
      intro s H0 C cl fp
      refine he s H0 C cl fp p d e7 σ2 H3 _ (E2.same s3) fun v H4 s4 r4 => ?_
      have sb : Same H2 H4 := sa.trans s4
      refine ⟨acc, sb _ _ ha, ?_, ?_⟩
      · rw [ra.length]
        have : done.length < total.length := by
          rw [← et, List.length_append, List.length_cons]
          omega
        exact Nat.lt_of_lt_of_le (Nat.lt_of_lt_of_le this hlen) (by decide)
      · have hD4 := sb _ _ ha
        have mo : Mono H4 (upd H4 D (.lst (acc ++ [v]))) := ⟨fun b zs hb => by rw [upd_ne (ne_of hb hD4 (by intro z; cases z))]; exact hb, fun b o u hb => by rw [upd_ne (ne_of hb hD4 (by intro z; cases z))]; exact hb⟩
        refine ⟨fun b o hb => ?_, acc ++ [v], done ++ [d], rest', upd_same, ((ra.mono (.of_same sb)).snoc r4).mono mo, e9, by rw [← et, List.append_assoc]; rfl⟩
        rw [upd_ne (ne_of_none hb hD)]
        exact sb _ _ (sm _ _ hb)
  · left
    have e : j = its.length := by omega
    subst e
    rw [List.drop_length] at er
    cases er
    rw [List.append_nil] at et
    subst et
    exact ⟨i.stops H2 (i.stays H1 H2 g (.of_same sm)), k D H2 acc hDH (s1.trans sm) ha ra⟩
theorem df_lc (own : List (Str × Nat)) {pos : Pos} (hc : X.calm = true) (hN : X.N.Nodup) (hi : DI X c Γ tg iter mi) (hg : ∀ s H0 C cl fp, DG (Blk X scope s H0 C cl fp) c js (wipeC Γ (own.map (·.2))) tg pm Gt) (ht : ∀ s H0 C cl fp p, DTs (Blk X scope s H0 C cl fp) c (Gt p) ifs (mt p)) (he : ∀ s H0 C cl fp p, DE (Blk X scope s H0 C cl fp) c (Gt p) elt (me p))
    (ok : blkC X.N X.env.scope scope own = true := by rfl) (hp : pinsOut c (own.map (·.2)) = true := by rfl) (hjs : ∀ j ∈ js, j ∈ own.map (·.2) := by decide) (hs : ∀ x, foldedSetIterable iter X.env x = pure x := by intro _; rfl) :
    DF X c Γ (.ListComp elt [⟨tg, iter, ifs, 0⟩] scope pos) (lenOk (mi.bind (lcF pm mt me))) := fun ds hd σ H Q E k => by
  obtain ⟨ds', e0, e3⟩ := Option.bind_eq_some_iff.mp hd
  obtain ⟨its, e1, e2⟩ := Option.bind_eq_some_iff.mp e0
  split at e3
  · rename_i hl
    cases e3
    exact sE_of (pe_lc hc hN (pi_s tg iter) (blkOk_by ok) (fun s H C cl fp => pg_B tg s H C cl fp) (fun s H C cl fp => pt_B ifs s H C cl fp) (fun s H C cl fp => pe_B elt s H C cl fp) hs) (lc_sem hi hg ht he hp hjs e1 e2 hl E k)
  · cases e3
variable {N B R : Type} {GN : N → Env_} {GB : B → Env_} {RK : R → V → Hp → Prop} {rest : List Stmt}
theorem db_setLc (i : Nat) (own : List (Str × Nat)) {y : Str} {py pos spos : Pos} {mr : List D → Option (Fl N B R)} (hc : X.calm = true) (hN : X.N.Nodup) (hi : DI X c Γ tg iter mi) (hg : ∀ s H0 C cl fp, DG (Blk X scope s H0 C cl fp) c js (wipeC Γ (own.map (·.2))) tg pm Gt) (ht : ∀ s H0 C cl fp p, DTs (Blk X scope s H0 C cl fp) c (Gt p) ifs (mt p)) (he : ∀ s H0 C cl fp p, DE (Blk X scope s H0 C cl fp) c (Gt p) elt (me p))
    (hr : ∀ d, DB X c GN GB RK (Γ.set i (.own d)) rest (mr d)) (hy : X.N[i]? = some y := by rfl) (hyl : X.env.scope.names.lookup y = some .local := by rfl) (hm : (c.M.map (·.1)).contains i = false := by rfl)
    (ok : blkC X.N X.env.scope scope own = true := by rfl) (hp : pinsOut c (own.map (·.2)) = true := by rfl) (hjs : ∀ j ∈ js, j ∈ own.map (·.2) := by decide) (hs : ∀ x, foldedSetIterable iter X.env x = pure x := by intro _; rfl) (hk : X.env.scope.kind = .function := by rfl) (hl : (py.line == pos.line) = true := by rfl) (ha : (scope.names.any fun (n, k) => n == y && (k == .local || k == .cell)) = false := by rfl) :
    DB X c GN GB RK Γ (.Assign [.Name y py] (.ListComp elt [⟨tg, iter, ifs, 0⟩] scope pos) spos :: rest) ((lenOk (mi.bind (lcF pm mt me))).bind mr) := fun o h σ H D E f => by
  obtain ⟨ds, e4, e5⟩ := Option.bind_eq_some_iff.mp h
  obtain ⟨ds', e0, e3⟩ := Option.bind_eq_some_iff.mp e4
  obtain ⟨its, e1, e2⟩ := Option.bind_eq_some_iff.mp e0
  split at e3
  · rename_i hl2
    cases e3
    refine sSs_cons (ps_setLc hc hN hy hyl (sw_true hk hyl hl ha) (pi_s tg iter) (blkOk_by ok) (fun s H C cl fp => pg_B tg s H C cl fp) (fun s H C cl fp => pt_B ifs s H C cl fp) (fun s H C cl fp => pe_B elt s H C cl fp) hs) ?_
    exact lc_sem (σ := σ) (H := H) hi hg ht he hp hjs e1 e2 hl2 E fun a H1 xs hn s1 hx r1 => hr _ o e5 _ H1 D ((E.same s1).setOwn hx r1 (E.notOwn hn) (E.fresh0 hn) (noPin hm)) (f.mono (.of_same s1))
  · cases e3
end
/-! the same with effects -/
def notOwnAt (vs : List Nat) (Γ : Env_) : Bool := vs.all fun v => match Γ[v]? with
  | some k => !k.isOwn
  | none => true
theorem notOwnAt_iff {vs : List Nat} {Γ : Env_} (h : notOwnAt vs Γ = true) : ∀ v ∈ vs, ∀ k, Γ[v]? = some k → k.isOwn = false := fun v hv k e => by
  have q := List.all_eq_true.mp h v hv
  rw [e] at q
  simpa using q
theorem wipeC_at (Γ : Env_) (i : Nat) : ∀ vs : List Nat, (wipeC Γ vs)[i]? = if i ∈ vs then (Γ[i]?).map (fun _ => .any) else Γ[i]?
  | [] => by simp [wipeC]
  | v :: vs => by
    have lw : ∀ us : List Nat, (wipeC Γ us).length = Γ.length := fun us => by
      induction us with
      | nil => rfl
      | cons u us ih => unfold wipeC; rw [List.length_set, ih]
    unfold wipeC
    by_cases h : v = i
    · subst h
      rw [if_pos List.mem_cons_self, List.getElem?_set, if_pos rfl, lw]
      by_cases hl : v < Γ.length
      · rw [if_pos hl, List.getElem?_eq_getElem hl]
        rfl
      · rw [if_neg hl, List.getElem?_eq_none (by omega)]
        rfl
    · rw [List.getElem?_set_ne h, wipeC_at Γ i vs]
      have e : (i ∈ v :: vs) = (i ∈ vs) := by
        rw [List.mem_cons]
        exact propext ⟨fun z => z.resolve_left fun q => h q.symm, .inr⟩
      simp only [e]
theorem owns_wipe {Γ : Env_} {σ : St} {vs : List Nat} {a : Addr} (h : notOwnAt vs Γ = true) : Owns (wipeC Γ vs) (wipe σ vs) a ↔ Owns Γ σ a := by
  constructor
  · rintro ⟨j, k, e1, e2, e3⟩
    rw [wipeC_at] at e1
    by_cases hj : j ∈ vs
    · rw [if_pos hj] at e1
      obtain ⟨_, _, rfl⟩ := Option.map_eq_some_iff.mp e1
      cases e2
    · rw [if_neg hj] at e1
      rw [wipe_at, if_neg hj] at e3
      exact ⟨j, k, e1, e2, e3⟩
  · rintro ⟨j, k, e1, e2, e3⟩
    have hj : j ∉ vs := fun z => by
      rw [notOwnAt_iff h j z k e1] at e2
      cases e2
    exact ⟨j, k, by rw [wipeC_at, if_neg hj]; exact e1, e2, by rw [wipe_at, if_neg hj]; exact e3⟩
theorem Step.wipe {Γ Γ' : Env_} {σ : St} {vs : List Nat} {H H' : Hp} (s : Step Γ Γ' σ H H') (h : notOwnAt vs Γ = true) (h' : notOwnAt vs Γ' = true) : Step (wipeC Γ vs) (wipeC Γ' vs) (L2.wipe σ vs) H H' :=
  ⟨fun b o e n => s.1 b o e fun q => n ((owns_wipe h).mpr q), fun a q => (owns_wipe h).mpr (s.2 a ((owns_wipe h').mp q)), fun a q => s.3 a ((owns_wipe h).mp q)⟩
theorem Step.unwipe {Γ Γ' : Env_} {σ : St} {vs : List Nat} {H H' : Hp} (s : Step Γ Γ' (L2.wipe σ vs) H H') (h : notOwnAt vs Γ = true) (h' : notOwnAt vs Γ' = true) (w : wipeC Γ vs = Γ) (w' : wipeC Γ' vs = Γ') : Step Γ Γ' σ H H' :=
  ⟨fun b o e n => s.1 b o e fun q => n ((owns_wipe h).mp (by rw [w]; exact q)), fun a q => by
    have z := s.2 a (by have y := (owns_wipe (σ := σ) (a := a) h').mpr q; rw [w'] at y; exact y)
    exact (owns_wipe h).mp (by rw [w]; exact z), fun a q => s.3 a (by have y := (owns_wipe (σ := σ) (a := a) h).mpr q; rw [w] at y; exact y)⟩
theorem EnvOk.unwipe {K : Fr_} {c : FC} {σ : St} {H : Hp} {Γ : Env_} {vs : List Nat} (E : EnvOk K c (L2.wipe σ vs) H Γ) (w : wipeC Γ vs = Γ) (hp : ∀ v ∈ vs, ∀ p ∈ c.M, p.1 ≠ v) : EnvOk K c σ H Γ := by
  have any_ : ∀ {i : Nat} {k : Cell}, i ∈ vs → Γ[i]? = some k → k = .any := fun {i k} hi e => by
    rw [← w, wipeC_at, if_pos hi] at e
    obtain ⟨_, _, rfl⟩ := Option.map_eq_some_iff.mp e
    rfl
  have out : ∀ {i : Nat} {k : Cell}, Γ[i]? = some k → k.isOwn = true → i ∉ vs := fun {i k} e ho hi => by
    rw [any_ hi e] at ho
    cases ho
  have at_ : ∀ {i : Nat}, i ∉ vs → (L2.wipe σ vs)[i]? = σ[i]? := fun {i} hi => by rw [wipe_at, if_neg hi]
  refine ⟨fun i k h => ?_, fun i j k l a hij h1 h2 h3 h4 h5 h6 => E.apart i j k l a hij h1 h2 h3 h4 (by rw [at_ (out h1 h2)]; exact h5) (by rw [at_ (out h3 h4)]; exact h6), E.pres, fun a ⟨j, k, h1, h2, h3⟩ => E.new a ⟨j, k, h1, h2, by rw [at_ (out h1 h2)]; exact h3⟩, fun p hq => ?_, by rw [← E.len, wipe_length]⟩
  · by_cases hi : i ∈ vs
    · rw [any_ hi h]
      trivial
    · have z := E.cells i k h
      rw [at_ hi] at z
      exact z
  · obtain ⟨h1, h2⟩ := E.pins p hq
    have hv : p.1 ∉ vs := fun z => hp p.1 z p hq rfl
    rw [at_ hv] at h1
    exact ⟨h1, h2⟩
def lcX {T P : Type} (pm : D → Option P) (mt : P → T → Option (Bool × T)) (me : P → T → Option (D × T)) : List D → T → Option (List D × T)
  | [], t => some ([], t)
  | x :: r, t => (pm x).bind fun p => (mt p t).bind fun q => if q.1 then (me p q.2).bind fun w => (lcX pm mt me r w.2).map fun z => (w.1 :: z.1, z.2) else lcX pm mt me r q.2
section
variable {X : Cx} {c : FC} {T : Type} {G : T → Env_} {scope : Scope} {P : Type} {js vs : List Nat} {tg iter elt : Expr} {ifs : List Expr} {pm : D → Option P} {Gt : T → P → Env_} {mt : P → T → Option (Bool × T)} {me : P → T → Option (D × T)} {mi : T → Option (List D × T)}
theorem lcX_sem {its total : List D} {t t1 t2 : T} {σ : St} {H : Hp} {Q : VK} (hi : DXI X c G tg iter mi) (hg : ∀ s H0 C cl fp t, DG (Blk X scope s H0 C cl fp) c js (G t) tg pm (Gt t)) (ht : ∀ s H0 C cl fp p, DXTs (Blk X scope s H0 C cl fp) c (fun t => Gt t p) ifs (mt p)) (he : ∀ s H0 C cl fp p, DX (Blk X scope s H0 C cl fp) c (fun t => Gt t p) elt (me p))
    (hp : pinsOut c vs = true) (hjs : ∀ j ∈ js, j ∈ vs) (hG : ∀ t, wipeC (G t) vs = G t) (hGt : ∀ t p, wipeC (Gt t p) vs = G t) (hno : ∀ t p, notOwnAt vs (Gt t p) = true) (hno' : ∀ t, notOwnAt vs (G t) = true)
    (e1 : mi t = some (its, t1)) (e2 : lcX pm mt me its t1 = some (total, t2)) (hlen : total.length ≤ 100000) (E : EnvOk X.K c σ H (G t))
    (k : ∀ a H' xs, H a = none → EnvOk X.K c σ H' (G t2) → Step (G t) (G t2) σ H H' → H' a = some (.lst xs) → RpA X.K H' xs total → Q (.ref a) H') : tLc (sI X tg iter) (gB X scope tg) (tB X scope ifs) (eB X scope elt) vs σ H Q := by
  refine hi t its t1 e1 σ H _ E fun J H1 Gd E1 s1 i g => ?_
  intro D hD
  have hDH : H D = none := s1.free E hD
  have hpo := pinsOut_iff hp
  have Ew : ∀ {u : T} {H' : Hp}, EnvOk X.K c σ H' (G u) → EnvOk X.K c (wipe σ vs) H' (G u) := fun {u H'} e => by
    have z := e.wipe hpo (vs := vs)
    rw [hG] at z
    exact z
  refine ⟨fun j m H2 => m = its.length - j ∧ j ≤ its.length ∧ ∃ u, EnvOk X.K c (wipe σ vs) H2 (G u) ∧ Step (G t1) (G u) (wipe σ vs) H1 H2 ∧ ¬ Owns (G u) (wipe σ vs) D ∧ ∃ acc done rest, H2 D = some (.lst acc) ∧ RpA X.K H2 acc done ∧ lcX pm mt me (its.drop j) u = some (rest, t2) ∧ done ++ rest = total,
    ⟨its.length, rfl, Nat.zero_le _, t1, (Ew E1).same (Same.new hD), .of_same (Ew E1) (Same.new hD), (Ew E1).notOwn hD, [], [], total, upd_same, .nil, e2, rfl⟩, ?_⟩
  rintro j m H2 ⟨rfl, hj, u, E2, st, no, acc, done, rest, ha, ra, er, et⟩
  have mo1 : Mono H1 H2 := st.mono (Ew E1)
  by_cases hlt : j < its.length
  · right
    have hd : its[j]? = some its[j] := List.getElem?_eq_getElem hlt
    rw [List.drop_eq_getElem_cons hlt] at er
    obtain ⟨p, e3, e4⟩ := Option.bind_eq_some_iff.mp er
    obtain ⟨⟨b, u1⟩, e5, e6⟩ := Option.bind_eq_some_iff.mp e4
    have g2 := i.stays H1 H2 g mo1
    refine ⟨i.goes j H2 hlt g2, fun H' => ∃ u, EnvOk X.K c (wipe σ vs) H' (G u) ∧ Step (G t1) (G u) (wipe σ vs) H1 H' ∧ ¬ Owns (G u) (wipe σ vs) D ∧ ∃ acc done rest, H' D = some (.lst acc) ∧ RpA X.K H' acc done ∧ lcX pm mt me (its.drop (j + 1)) u = some (rest, t2) ∧ done ++ rest = total, fun H' q => ⟨its.length - (j + 1), by omega, rfl, hlt, q⟩, fun x H' y => ?_⟩
    obtain ⟨s2, r2⟩ := i.yields j H2 x H' _ hd g2 y
    have Ea : EnvOk X.K c (wipe σ vs) H' (G u) := E2.same s2
    intro s H0 C cl fp
    refine hg s H0 C cl fp u _ p e3 x (wipe σ vs) H' _ Ea r2 fun σ2 E3 o2 => ⟨wipe_only o2 hjs, ?_⟩
    have ww := wipe_only o2 hjs
    -- back to the frame with the block's names forgotten
    have back : ∀ {w : T} {H'' : Hp}, EnvOk X.K c σ2 H'' (Gt w p) → EnvOk X.K c (wipe σ vs) H'' (G w) := fun {w H''} e => by
      have z := e.wipe hpo (vs := vs)
      rw [hGt, ww] at z
      exact z
    have backS : ∀ {w w' : T} {Ha Hb : Hp}, Step (Gt w p) (Gt w' p) σ2 Ha Hb → Step (G w) (G w') (wipe σ vs) Ha Hb := fun {w w' Ha Hb} e => by
      have z := e.wipe (hno w p) (hno w' p)
      rw [hGt, hGt, ww] at z
      exact z
    intro s H0 C cl fp
    refine ht s H0 C cl fp p u b u1 e5 σ2 H' _ E3 fun H3 E4 s3 => ?_
    have sa : Step (G u) (G u1) (wipe σ vs) H2 H3 := (Step.of_same E2 s2).trans (backS s3)
    have ha3 : H3 D = some (.lst acc) := sa.1 _ _ ha no
    have no3 : ¬ Owns (G u1) (wipe σ vs) D := fun q => no (sa.2 _ q)
    have ra3 : RpA X.K H3 acc done := ra.mono (sa.mono E2)
    cases b with
    | false =>
      replace e6 : lcX pm mt me (its.drop (j + 1)) u1 = some (rest, t2) := e6
      show ite _ _ _
      rw [if_neg Bool.false_ne_true]
      exact ⟨u1, back E4, st.trans sa, no3, acc, done, rest, ha3, ra3, e6, et⟩
    | true =>
      replace e6 : ((me p u1).bind fun w => (lcX pm mt me (its.drop (j + 1)) w.2).map fun z => (w.1 :: z.1, z.2)) = some (rest, t2) := e6
      obtain ⟨⟨d, u2⟩, e7, e8⟩ := Option.bind_eq_some_iff.mp e6
      obtain ⟨⟨rest', t3⟩, e9, e10⟩ := Option.map_eq_some_iff.mp e8
      cases e10
      show ite _ _ _
      rw [if_pos rfl]
      intro s H0 C cl fp
      refine he s H0 C cl fp p u1 d u2 e7 σ2 H3 _ E4 fun v H4 E5 s4 r4 => ?_
      have sb : Step (G u1) (G u2) (wipe σ vs) H3 H4 := backS s4
      have hD4 : H4 D = some (.lst acc) := sb.1 _ _ ha3 no3
      have no4 : ¬ Owns (G u2) (wipe σ vs) D := fun q => no3 (sb.2 _ q)
      have ra4 := ra3.mono (sb.mono (back E4))
      refine ⟨acc, hD4, ?_, ?_⟩
      · rw [ra.length]
        have : done.length < total.length := by
          rw [← et, List.length_append, List.length_cons]
          omega
        exact Nat.lt_of_lt_of_le (Nat.lt_of_lt_of_le this hlen) (by decide)
      · have keep : ∀ b o, H4 b = some o → b ≠ D → upd H4 D (.lst (acc ++ [v])) b = some o := fun b o hb hne => by
          rw [upd_ne hne]
          exact hb
        have mo : Mono H4 (upd H4 D (.lst (acc ++ [v]))) := ⟨fun b zs hb => keep b _ hb (ne_of hb hD4 (by intro z; cases z)), fun b o u hb => keep b _ hb (ne_of hb hD4 (by intro z; cases z))⟩
        have E6 : EnvOk X.K c (wipe σ vs) (upd H4 D (.lst (acc ++ [v]))) (G u2) := by
          have Eq := back E5
          refine ⟨fun i q hq => ?_, Eq.apart, fun b o hb hM => keep b o (Eq.pres b o hb hM) fun z => ?_, Eq.new, Eq.pins, Eq.len⟩
          · have z := Eq.cells i q hq
            cases q with
            | any => trivial
            | imm d =>
              obtain ⟨v, e1, r1⟩ := z
              exact ⟨v, e1, r1.mono mo⟩
            | own fs =>
              obtain ⟨b, zs, e1, hb, r1⟩ := z
              exact ⟨b, zs, e1, keep b _ hb fun q' => no4 ⟨i, _, hq, rfl, q' ▸ e1⟩, r1.mono mo⟩
          · have z0 : H1 D = none := hD
            have z1 : c.H0 D = none := (Ew E1).fresh0 z0
            rw [z, z1] at hb
            cases hb
        have st4 : Step (G t1) (G u2) (wipe σ vs) H1 H4 := (st.trans sa).trans sb
        have ne1 : ∀ b o, H1 b = some o → b ≠ D := fun b o hb => ne_of_none hb hD
        have st5 : Step (G t1) (G u2) (wipe σ vs) H1 (upd H4 D (.lst (acc ++ [v]))) := ⟨fun b o hb hn => keep b o (st4.1 b o hb hn) (ne1 b o hb), st4.2, fun a hw => by
          obtain ⟨xs, e⟩ := (Ew E1).owned hw
          rw [upd_ne (ne1 a _ e)]
          exact st4.3 a hw⟩
        exact ⟨u2, E6, st5, no4, acc ++ [v], done ++ [d], rest', upd_same, (ra4.snoc r4).mono mo, e9, by rw [← et, List.append_assoc]; rfl⟩
  · left
    have e : j = its.length := by omega
    subst e
    rw [List.drop_length] at er
    cases er
    rw [List.append_nil] at et
    subst et
    refine ⟨i.stops H2 (i.stays H1 H2 g mo1), ?_⟩
    exact k D H2 acc hDH (E2.unwipe (hG _) hpo) (s1.trans (st.unwipe (hno' _) (hno' _) (hG _) (hG _))) ha ra
theorem dxf_lc (own : List (Str × Nat)) {pos : Pos} (hc : X.calm = true) (hN : X.N.Nodup) (hi : DXI X c G tg iter mi) (hg : ∀ s H0 C cl fp t, DG (Blk X scope s H0 C cl fp) c js (G t) tg pm (Gt t)) (ht : ∀ s H0 C cl fp p, DXTs (Blk X scope s H0 C cl fp) c (fun t => Gt t p) ifs (mt p)) (he : ∀ s H0 C cl fp p, DX (Blk X scope s H0 C cl fp) c (fun t => Gt t p) elt (me p))
    (hG : ∀ t, wipeC (G t) (own.map (·.2)) = G t := by intros; rfl) (hGt : ∀ t p, wipeC (Gt t p) (own.map (·.2)) = G t := by intros; rfl) (hno : ∀ t p, notOwnAt (own.map (·.2)) (Gt t p) = true := by intros; rfl) (hno' : ∀ t, notOwnAt (own.map (·.2)) (G t) = true := by intros; rfl)
    (ok : blkC X.N X.env.scope scope own = true := by rfl) (hp : pinsOut c (own.map (·.2)) = true := by rfl) (hjs : ∀ j ∈ js, j ∈ own.map (·.2) := by decide) (hs : ∀ x, foldedSetIterable iter X.env x = pure x := by intro _; rfl) :
    DXF X c G (.ListComp elt [⟨tg, iter, ifs, 0⟩] scope pos) (lenOkX fun t => (mi t).bind fun q => lcX pm mt me q.1 q.2) := fun t ds t' hd σ H Q E k => by
  obtain ⟨⟨ds', t2⟩, e0, e3⟩ := Option.bind_eq_some_iff.mp hd
  obtain ⟨⟨its, t1⟩, e1, e2⟩ := Option.bind_eq_some_iff.mp e0
  split at e3
  · rename_i hl
    cases e3
    exact sE_of (pe_lc hc hN (pi_s tg iter) (blkOk_by ok) (fun s H C cl fp => pg_B tg s H C cl fp) (fun s H C cl fp => pt_B ifs s H C cl fp) (fun s H C cl fp => pe_B elt s H C cl fp) hs) (lcX_sem hi hg ht he hp hjs hG hGt hno hno' e1 e2 hl E k)
  · cases e3
variable {N B R : Type} {GN : N → Env_} {GB : B → Env_} {RK : R → V → Hp → Prop} {rest : List Stmt}
theorem dbx_setLc (i : Nat) (own : List (Str × Nat)) {y : Str} {py pos spos : Pos} {t : T} {mr : List D × T → Option (Fl N B R)} (hc : X.calm = true) (hN : X.N.Nodup) (hi : DXI X c G tg iter mi) (hg : ∀ s H0 C cl fp t, DG (Blk X scope s H0 C cl fp) c js (G t) tg pm (Gt t)) (ht : ∀ s H0 C cl fp p, DXTs (Blk X scope s H0 C cl fp) c (fun t => Gt t p) ifs (mt p)) (he : ∀ s H0 C cl fp p, DX (Blk X scope s H0 C cl fp) c (fun t => Gt t p) elt (me p))
    (hr : ∀ q : List D × T, DB X c GN GB RK ((G q.2).set i (.own q.1)) rest (mr q)) (hy : X.N[i]? = some y := by rfl) (hyl : X.env.scope.names.lookup y = some .local := by rfl) (hm : (c.M.map (·.1)).contains i = false := by rfl)
    (hG : ∀ t, wipeC (G t) (own.map (·.2)) = G t := by intros; rfl) (hGt : ∀ t p, wipeC (Gt t p) (own.map (·.2)) = G t := by intros; rfl) (hno : ∀ t p, notOwnAt (own.map (·.2)) (Gt t p) = true := by intros; rfl) (hno' : ∀ t, notOwnAt (own.map (·.2)) (G t) = true := by intros; rfl)
    (ok : blkC X.N X.env.scope scope own = true := by rfl) (hp : pinsOut c (own.map (·.2)) = true := by rfl) (hjs : ∀ j ∈ js, j ∈ own.map (·.2) := by decide) (hs : ∀ x, foldedSetIterable iter X.env x = pure x := by intro _; rfl) (hk : X.env.scope.kind = .function := by rfl) (hl : (py.line == pos.line) = true := by rfl) (ha : (scope.names.any fun (n, k) => n == y && (k == .local || k == .cell)) = false := by rfl) :
    DB X c GN GB RK (G t) (.Assign [.Name y py] (.ListComp elt [⟨tg, iter, ifs, 0⟩] scope pos) spos :: rest) ((lenOkX (fun t => (mi t).bind fun q => lcX pm mt me q.1 q.2) t).bind mr) := fun o h σ H D E f => by
  obtain ⟨⟨ds, t'⟩, e4, e5⟩ := Option.bind_eq_some_iff.mp h
  obtain ⟨⟨ds', t2⟩, e0, e3⟩ := Option.bind_eq_some_iff.mp e4
  obtain ⟨⟨its, t1⟩, e1, e2⟩ := Option.bind_eq_some_iff.mp e0
  split at e3
  · rename_i hl2
    cases e3
    refine sSs_cons (ps_setLc hc hN hy hyl (sw_true hk hyl hl ha) (pi_s tg iter) (blkOk_by ok) (fun s H C cl fp => pg_B tg s H C cl fp) (fun s H C cl fp => pt_B ifs s H C cl fp) (fun s H C cl fp => pe_B elt s H C cl fp) hs) ?_
    exact lcX_sem (σ := σ) (H := H) hi hg ht he hp hjs hG hGt hno hno' e1 e2 hl2 E fun a H1 xs hn E1 s1 hx r1 => hr _ o e5 _ H1 D (E1.setOwn hx r1 (fun q => E.notOwn hn (s1.2 _ q)) (E.fresh0 hn) (noPin hm)) (f.mono (s1.mono E))
  · cases e3
end
end DL

set_option Elab.async false
set_option linter.all false
set_option maxRecDepth 100000
set_option maxHeartbeats 2000000
set_option autoImplicit false
namespace DL
open PySem PySem.Spec PyProof.Rows L2
/-! ### enumerate, zip over lists and tuples -/
/-- a row of items: a tuple (true) or a list -/
def SqB (K : Fr_) (H : Hp) (t : Bool) (a : Addr) (xs : List V) : Prop := match t with
  | true => SqT K H a xs
  | false => SqL K H a xs
def SeqB (t : Bool) (h : Heap) (a : Addr) (its : Array Value) : Prop := match t with
  | true => h.IsTuple a its
  | false => h.IsList a its
def IterB (t : Bool) (h : Heap) (it a : Addr) (i : Nat) : Prop := match t with
  | true => h.IsTupleIter it a i
  | false => h.IsListIter it a i
def obB (t : Bool) (a : Addr) : Obj := match t with
  | true => { cls := .type "tuple_iterator", data := .fields #[.ref a, .int 0 0] }
  | false => { cls := .type "list_iterator", data := .fields #[.ref a, .int 0 0] }
theorem beginsB (t : Bool) (a : Addr) (its : Array Value) : Begins (.ref a) (obB t a) (fun h => SeqB t h a its) := match t with
  | true => begins_tuple a its
  | false => begins_list a its
theorem drawsB {prog : Program} {w : World} {A : Around} (hh : A.handled = none) (t : Bool) (it a : Addr) (hne : a ≠ it) (its : Array Value) : Draws prog w A it [it, a] its.size (fun i v => its[i]? = some v) (fun i h => IterB t h it a i ∧ SeqB t h a its) := match t with
  | true => Draws.tuple hh it a hne its
  | false => Draws.list hh it a hne its
theorem iterB_new {t : Bool} {h : Heap} {it a : Addr} (e : h.get? it = some (obB t a)) : IterB t h it a 0 := match t, e with
  | true, e => ⟨_, e, rfl, rfl⟩
  | false, e => ⟨_, e, rfl, rfl⟩
theorem iterB_obj {t : Bool} {h : Heap} {it a : Addr} {i : Nat} (e : IterB t h it a i) : ∃ o, h.get? it = some o ∧ ∀ v, o.data ≠ .cell v := match t, e with
  | true, ⟨o, h1, _, h3⟩ => ⟨o, h1, fun v z => by rw [h3] at z; cases z⟩
  | false, ⟨o, h1, _, h3⟩ => ⟨o, h1, fun v z => by rw [h3] at z; cases z⟩
theorem iterB_keep {t : Bool} {h h' : Heap} {it a : Addr} {i : Nat} (e : IterB t h it a i) (k : ∀ o, h.get? it = some o → h'.get? it = some o) : IterB t h' it a i := match t, e with
  | true, e => e.at k
  | false, e => e.at k
theorem inv_seqB {X : Cx} {pins : List (Addr × Obj)} {σ : St} {H : Hp} {s : Shared} {t : Bool} {a : Addr} {xs : List V} (I : Inv X pins σ H s) (h : SqB X.K H t a xs) : ∃ its : List Value, Vals xs its ∧ SeqB t s.heap a its.toArray ∧ xs.length ≤ sizeLine ∧ ∃ o, s.heap.get? a = some o := by
  cases t with
  | true =>
    obtain ⟨its, rv, p, hz⟩ := I.tuple h
    obtain ⟨o, e, r⟩ := id p
    exact ⟨its, rv, ⟨o, e, r⟩, hz, o, e⟩
  | false =>
    obtain ⟨its, rv, p, hz⟩ := I.list h
    obtain ⟨o, e, r⟩ := id p.isList
    exact ⟨its, rv, ⟨o, e, r⟩, hz, o, e⟩
theorem inv_seqB_inj {X : Cx} {pins : List (Addr × Obj)} {σ : St} {H : Hp} {s : Shared} {t : Bool} {a : Addr} {xs ys : List V} (I : Inv X pins σ H s) (h : SqB X.K H t a xs) (h' : SqB X.K H t a ys) : xs = ys := by
  cases t with
  | true => exact I.tuple_inj h h'
  | false => exact I.list_inj h h'
/-- an iterator that lays a new tuple at each turn -/
theorem turn_walk {P : Program} {w : World} {K : Fr_} {elts : List Expr} {kk : Nat} {tpos : Pos} {it : Addr} {fp wr : List Addr} (J : It) (tn : Nat → Heap → Prop) (mem : it ∈ fp) (sub : ∀ b ∈ wr, b ∈ fp) (obj : ∀ i h, tn i h → ∀ b ∈ fp, ∃ o, h.get? b = some o ∧ ∀ v, o.data ≠ .cell v)
    (keep : ∀ i h h', tn i h → (∀ b ∈ fp, ∀ o, h.get? b = some o → h'.get? b = some o) → tn i h')
    (W : ∀ (X : Cx), X.prog = P → X.w = w → X.K = K → X.calm = true → ∀ (i : Nat) (pins : List (Addr × Obj)) (s : Shared) (σ : St) (H : Hp), Inv X pins σ H s → J.go i H ∨ J.stop i H → tn i s.heap →
      ∃ (fpw : List Addr) (n : Nat) (Pt : Nat → Array Value → Prop) (Sw : Nat → Heap → Prop) (Mid : Nat → Addr → Heap → Prop), WalksT P w X.A it fpw wr n Pt Sw Mid ∧ Sw i s.heap ∧ (∀ j h, Sw j h → tn j h) ∧
        (J.go i H → i < n ∧ ∀ vals, Pt i vals → ∃ xs : List V, Vals xs vals.toList ∧ xs.length ≤ sizeLine ∧ ∀ T, H T = none → J.yld i H (.ref T) (upd H T (.tup xs))) ∧ (J.stop i H → i = n))
    (self : ∀ (A : Around) (i : Nat) (s : Shared) (Q : Value → Shared → Prop) (E : Value → Shared → Prop), tn i s.heap → Q (.ref it) s → wpAny (model P w) A (pyIter (.ref it)) Q E s) : Turn P w K (.Tuple elts kk tpos) J fp it tn where
  mem := mem
  obj := obj
  keep := keep
  self := self
  item := by
    intro X hP hw hK hc i pins s σ H E I hf st hg
    obtain ⟨fpw, n, Pt, Sw, Mid, WT, sw, toTn, go, _⟩ := W X hP hw hK hc i pins s σ H I (.inl hg) st
    obtain ⟨hin, hv⟩ := go hg
    subst hP hw
    refine WT.item i s _ _ hin sw fun T vals h' tk pt hT isT mid kp => ⟨_, rfl, ?_⟩
    refine WT.go elts kk tpos i T { s with heap := h', toks := tk } _ _ mid fun h'' sw'' kp'' => ?_
    obtain ⟨xs, rv, hz, yl⟩ := hv vals pt
    have hTn : H T = none := I.hok.fresh hT
    have apT : T ∉ wr := WT.apart _ _ _ mid
    have isT2 : h''.IsTuple T vals := isT.at fun o e => kp'' T o apT e
    have kk2 : ∀ b o, b ∉ wr → s.heap.get? b = some o → h''.get? b = some o := fun b o hb e => kp'' b o hb (kp b o hb e)
    have new : ObjOk X.prog X.w (upd H T (.tup xs)) h'' T (.tup xs) := by
      obtain ⟨o, e1, e2, n', e3⟩ := isT2
      exact ⟨hz, vals.toList, rv, ⟨o, e1, e2, n', by rw [e3]⟩⟩
    have I1 := I.turnedNew (t' := tk) kk2 (fun b hb => hf b (sub b hb)) hT new
    refine ⟨.ref T, _, I1, rfl, yl T hTn, toTn _ _ sw'', fun b hb => ?_⟩
    obtain ⟨o, e, _⟩ := obj i _ st b hb
    rw [upd_ne (Nat.ne_of_lt (Nat.lt_of_lt_of_le (Heap.lt_size e) hT))]
    exact (hf b hb).1
  done := by
    intro X hP hw hK hc i pins s σ H E I hf st hg
    obtain ⟨fpw, n, Pt, Sw, Mid, WT, sw, toTn, _, sp⟩ := W X hP hw hK hc i pins s σ H I (.inr hg) st
    have e := sp hg
    subst hP hw e
    exact WT.done s _ _ sw fun h' tk kp => ⟨rfl, I.turnedL (t' := tk) kp fun b hb => hf b (sub b hb)⟩
theorem vals_at {xs : List V} {its : List Value} {i : Nat} {x : V} {u : Value} (r : Vals xs its) (hx : xs[i]? = some x) (hu : its.toArray[i]? = some u) : RelV x u := by
  obtain ⟨u', e, q⟩ := r.get hx
  rw [List.getElem?_toArray] at hu
  rw [e] at hu
  cases hu
  exact q
/-! enumerate -/
def ItE (K : Fr_) (t : Bool) (a : Addr) : It :=
  ⟨fun i H => ∃ (xs : List V) (x : V), SqB K H t a xs ∧ xs[i]? = some x, fun i H v H' => ∃ T x, v = .ref T ∧ H T = none ∧ H' = upd H T (.tup [.int (i : Nat), x]) ∧ ∀ xs, SqB K H t a xs → xs[i]? = some x, fun i H => ∃ xs : List V, SqB K H t a xs ∧ i = xs.length⟩
theorem turn_en {P : Program} {w : World} {K : Fr_} {elts : List Expr} {kk : Nat} {tpos : Pos} (t : Bool) (a e it : Addr) (hai : a ≠ it) (hae : e ≠ a) (hei : e ≠ it) :
    Turn P w K (.Tuple elts kk tpos) (ItE K t a) [e, it] e (fun i h => (∃ old, IsEnum h e it ((i : Nat) : Int) old) ∧ IterB t h it a i) := by
  refine turn_walk (wr := [e, it]) _ _ List.mem_cons_self (fun b hb => hb) (fun i h ⟨⟨old, h1⟩, h2⟩ b hb => ?_) (fun i h h' ⟨⟨old, h1⟩, h2⟩ k => ⟨⟨old, k e (by simp) _ h1⟩, iterB_keep h2 fun o => k it (by simp) o⟩) (fun X hP hw hK hc i pins s σ H I gs st => ?_) fun A i s Q E ⟨⟨_, he⟩, _⟩ h => wpAny_pyIter_enum he h
  · have e' : b = e ∨ b = it := by simpa using hb
    rcases e' with z | z
    · rw [z]
      exact ⟨_, h1, fun v q => nomatch q⟩
    · rw [z]
      exact iterB_obj h2
  · subst hP hw hK
    have hx : ∃ xs, SqB X.K H t a xs := by
      rcases gs with ⟨xs, _, h, _⟩ | ⟨xs, h, _⟩
      · exact ⟨xs, h⟩
      · exact ⟨xs, h⟩
    obtain ⟨xs, hx⟩ := hx
    obtain ⟨its, rv, p, hz, _⟩ := inv_seqB I hx
    have hh : X.A.in1.handled = none := I.ok.hd hc
    have hef : e ∉ [it, a] := by
      simp only [List.mem_cons, List.not_mem_nil, or_false, not_or]
      exact ⟨hei, hae⟩
    refine ⟨_, _, _, _, _, WalksT.enumerateD (drawsB hh t it a hai its.toArray) e hei hef List.mem_cons_self, ⟨st.1, st.2, p⟩, fun j h ⟨h1, h2, h3⟩ => ⟨h1, h2⟩, fun ⟨ys, x, hy, hx'⟩ => ?_, fun ⟨ys, hy, hl⟩ => ?_⟩
    · have ey := inv_seqB_inj I hy hx
      subst ey
      refine ⟨?_, fun vals ⟨tk, u, hu, ev⟩ => ⟨[.int (i : Nat), x], ?_, by show 2 ≤ sizeLine; decide, fun T hT => ⟨T, x, rfl, hT, rfl, fun zs hz' => by rw [inv_seqB_inj I hz' hx]; exact hx'⟩⟩⟩
      · rw [List.size_toArray, ← rv.length]
        exact (List.getElem?_eq_some_iff.mp hx').1
      · rw [ev]
        exact .cons ⟨_, rfl⟩ (.cons (vals_at rv hx' hu) .nil)
    · rw [inv_seqB_inj I hy hx] at hl
      rw [hl, List.size_toArray, rv.length]
set_option maxHeartbeats 4000000 in
theorem meets_enum1 {v : Value} {o : Obj} {H : Heap → Prop} (B : Begins v o H) :
    Meets (Builtin.«enumerate.__new__» ⟨[.type "enumerate", v], []⟩) (fun _ R s => H s.heap ∧ R (.ok (.ret (.ref (s.heap.push o).objs.size))) { s with heap := (s.heap.push o).push { cls := .type "enumerate", data := .fields #[.none, .bool false, .ref s.heap.objs.size, rawInt 0, .none, .none] } }) :=
  .of_wp fun prog w A R s h => by
    obtain ⟨hp, g, d, tk, os⟩ := s
    obtain ⟨h1, h⟩ := h
    have hsub := sub_enumerate
    have q1 : ∀ {A' : Around} {E : Value → Shared → Prop} {Q : Value → Shared → Prop}, Q (.ref hp.objs.size) ⟨hp.push o, g, d, tk, os⟩ → wpAny (model prog w) A' (pyIter v) Q E ⟨hp, g, d, tk, os⟩ := fun q => B.iter prog w _ _ ⟨hp, g, d, tk, os⟩ _ h1 q
    wp_walk using q1
    refine wpAny_stack_any fun st => wpAny_pure ?_
    split
    · rename_i c _ _ _ _ _
      cases (c == Value.type "enumerate")
      · wp_walk using q1
        exact ⟨_, rfl, h⟩
      · wp_walk using q1
        exact ⟨_, rfl, h⟩
    · wp_walk using q1
      exact ⟨_, rfl, h⟩
theorem call_enum1 {prog : Program} {w : World} {A : Around} {E : Value → Shared → Prop} {s : Shared} {v : Value} {o : Obj} {H : Heap → Prop} {Q : Value → Shared → Prop} (B : Begins v o H) (h1 : H s.heap)
    (h : ∀ h', IsEnum h' (s.heap.objs.size + 1) s.heap.objs.size 0 .none → h'.get? s.heap.objs.size = some o → (∀ b o, s.heap.get? b = some o → h'.get? b = some o) → Q (.ref (s.heap.objs.size + 1)) { s with heap := h' }) :
    wpAny (model prog w) A (call (.type "enumerate") [v]) Q E s := by
  refine callType_new F.called_enumerate (by decide) (F.typeCall_enumerate_1 _) (F.newCall_enumerate_1 _) (fun obj => F.args_object_init_2 obj _) F.entry_enumerate_new (meets_enum1 B) ⟨h1, ?_⟩
  have hz : (s.heap.push o).objs.size = s.heap.objs.size + 1 := Heap.size_push ..
  have g1 := Heap.get?_push_size (s.heap.push o) (o := ({ cls := .type "enumerate", data := .fields #[.none, .bool false, .ref s.heap.objs.size, rawInt 0, .none, .none] } : Obj)) rfl
  show _ ∧ _
  rw [hz] at g1 ⊢
  exact ⟨⟨_, g1, rfl⟩, h _ g1 (Heap.get?_push_of_some _ (Heap.get?_push_size _ B.free)) fun b u x => Heap.get?_push_of_some _ (Heap.get?_push_of_some _ x)⟩
/-- (i, item), .. -/
def enumD : D → Option (List D) := fun d => (iterD d).map fun ds => ds.zipIdx.map fun p => .tuple [.int (p.2 : Nat), p.1]
theorem itd_en {K : Fr_} {t : Bool} {a : Addr} {xs : List V} {ds : List D} : ItD K (ItE K t a) (ds.zipIdx.map fun p => .tuple [.int (p.2 : Nat), p.1]) (fun H => (match t with | true => SqT K H a xs | false => Fz K H a xs) ∧ RpA K H xs ds) where
  goes := fun i H hi ⟨h, r⟩ => by
    rw [List.length_map, List.length_zipIdx, ← r.length] at hi
    exact ⟨xs, xs[i], (match t, h with | true, h => h | false, h => h.sq), List.getElem?_eq_getElem hi⟩
  stops := fun H ⟨h, r⟩ => ⟨xs, (match t, h with | true, h => h | false, h => h.sq), by rw [List.length_map, List.length_zipIdx, r.length]⟩
  yields := fun i H x H' d hd ⟨h, r⟩ ⟨T, y, e1, hT, e2, q⟩ => by
    subst e1 e2
    rw [List.getElem?_map, List.getElem?_zipIdx] at hd
    obtain ⟨⟨d', n⟩, hd1, rfl⟩ := Option.map_eq_some_iff.mp hd
    obtain ⟨d'', hd2, e3⟩ := Option.map_eq_some_iff.mp hd1
    cases e3
    obtain ⟨v, h1, h2⟩ := r.get hd2
    have := q xs (match t, h with | true, h => h | false, h => h.sq)
    rw [h1] at this
    cases this
    have s := Same.new (o := (.tup [.int (i : Nat), y])) hT
    refine ⟨s, .tup (SqT.of upd_same) (.cons ?_ (.cons (h2.mono (.of_same s)) .nil))⟩
    rw [Nat.zero_add]
    exact .int _
  stays := fun H H' ⟨h, r⟩ m => ⟨(match t, h with | true, h => m.sqT h | false, h => m.fz h), r.mono m⟩
section
variable {X : Cx} {c : FC} {elts : List Expr} {kk : Nat} {tpos : Pos}
theorem pi_en {e : Expr} {ta : TA} {p pos : Pos} (hg : Gl X "enumerate") (hm : X.mg "enumerate" = none) (ha : PA X [e] ta) (hs : starEach [e] X.env = [(false, eval e X.env)] := by rfl) :
    PI X (.Tuple elts kk tpos) (.Call (.Name "enumerate" p) [e] [] pos) (fun σ H R => ta σ H fun vs H1 => ∃ t a xs, vs = [.ref a] ∧ SqB X.K H1 t a xs ∧ R (ItE X.K t a) H1) := by
  refine ⟨fun pins s σ H R I h => ?_⟩
  refine Call_ (ld_blt I hg hm boot_enumerate (PyProof.Rows.callWith_type1 (thn (ha.run pos pins s σ H _ I h) fun us s1 ⟨vs, H1, I1, r1, q1⟩ => ?_) hs rfl))
  obtain ⟨t, a, xs, rfl, hq, q⟩ := q1
  obtain ⟨u, rfl, ru⟩ := vals1 r1
  cases ru
  obtain ⟨its, rv, p', hz, o, ho⟩ := inv_seqB I1 hq
  have hlt : a < s1.heap.objs.size := Heap.lt_size ho
  refine call_enum1 (beginsB t a its.toArray) p' fun h' he hit hk => wpAny_pyIter_enum he ?_
  have I2 : Inv X pins σ H1 { s1 with heap := h' } := I1.kept (t' := s1.toks) hk
  refine ⟨s1.heap.objs.size + 1, [s1.heap.objs.size + 1, s1.heap.objs.size], _, _, H1, rfl, I2, turn_en t a _ _ (Nat.ne_of_lt hlt) (Nat.ne_of_gt (Nat.lt_succ_of_lt hlt)) (Nat.succ_ne_self _), ⟨⟨.none, he⟩, iterB_new hit⟩, fun b hb => ?_, q⟩
  have hle : s1.heap.objs.size ≤ b := by
    rcases List.mem_cons.mp hb with z | z
    · rw [z]
      exact Nat.le_succ _
    · rw [List.mem_singleton.mp z]
      exact Nat.le_refl _
  exact I1.fpOk hle (I1.hok.fresh hle)
theorem en_go {H1 : Hp} {R : It → Hp → Prop} {v : V} {x : D} {ds : List D} (r1 : Rp X.K H1 v x) (e2 : enumD x = some ds) (k : ∀ J Gd, ItD X.K J ds Gd → Gd H1 → R J H1) : ∃ t a xs, [v] = [V.ref a] ∧ SqB X.K H1 t a xs ∧ R (ItE X.K t a) H1 := by
  obtain ⟨ds', e3, rfl⟩ := Option.map_eq_some_iff.mp e2
  cases r1 with
  | lst h r =>
    cases e3
    exact ⟨false, _, _, rfl, h.sq, k _ _ (itd_en (t := false)) ⟨h, r⟩⟩
  | tup h r =>
    cases e3
    exact ⟨true, _, _, rfl, h, k _ _ (itd_en (t := true)) ⟨h, r⟩⟩
  | _ => cases e3
theorem di_enum {Γ : Env_} {e : Expr} {m : Option D} {p pos : Pos} (hm : X.mg "enumerate" = none) (h : DE X c Γ e m) (hg : Gl X "enumerate" := by rfl) (hs : starEach [e] X.env = [(false, eval e X.env)] := by rfl) : DI X c Γ (.Tuple elts kk tpos) (.Call (.Name "enumerate" p) [e] [] pos) (m.bind enumD) := fun ds hd σ H R E k => by
  obtain ⟨x, e1, e2⟩ := Option.bind_eq_some_iff.mp hd
  refine sI_of (pi_en hg hm (pa_s ⟨hs, trivial⟩) hs) (h x e1 σ H _ E fun v H1 s1 r1 => ?_)
  exact en_go r1 e2 fun J Gd i g => k J H1 Gd s1 i g
theorem dxi_enum {T : Type} {G : T → Env_} {e : Expr} {m : T → Option (D × T)} {p pos : Pos} (hm : X.mg "enumerate" = none) (h : DX X c G e m) (hg : Gl X "enumerate" := by rfl) (hs : starEach [e] X.env = [(false, eval e X.env)] := by rfl) : DXI X c G (.Tuple elts kk tpos) (.Call (.Name "enumerate" p) [e] [] pos) (bindX m enumD) := fun t ds t' hd σ H R E k => by
  obtain ⟨x, e1, e2⟩ := bindX_eq hd
  refine sI_of (pi_en hg hm (pa_s ⟨hs, trivial⟩) hs) (h t x t' e1 σ H _ E fun v H1 E1 s1 r1 => ?_)
  exact en_go r1 e2 fun J Gd i g => k J H1 Gd E1 s1 i g
end
end DL

set_option Elab.async false
set_option linter.all false
set_option maxRecDepth 100000
set_option maxHeartbeats 2000000
set_option autoImplicit false
namespace DL
open PySem PySem.Spec PyProof.Rows L2
/-! ### zip of two, of three -/
def ItZ2 (K : Fr_) (t1 : Bool) (a : Addr) (t2 : Bool) (b : Addr) : It :=
  ⟨fun i H => ∃ (xs ys : List V), SqB K H t1 a xs ∧ SqB K H t2 b ys ∧ i < xs.length ∧ i < ys.length, fun i H v H' => ∃ T x y, v = .ref T ∧ H T = none ∧ H' = upd H T (.tup [x, y]) ∧ (∀ xs, SqB K H t1 a xs → xs[i]? = some x) ∧ ∀ ys, SqB K H t2 b ys → ys[i]? = some y,
    fun i H => ∃ xs ys : List V, SqB K H t1 a xs ∧ SqB K H t2 b ys ∧ i = min xs.length ys.length⟩
def ItZ3 (K : Fr_) (t1 : Bool) (a : Addr) (t2 : Bool) (b : Addr) (t3 : Bool) (c : Addr) : It :=
  ⟨fun i H => ∃ (xs ys zs : List V), SqB K H t1 a xs ∧ SqB K H t2 b ys ∧ SqB K H t3 c zs ∧ i < xs.length ∧ i < ys.length ∧ i < zs.length, fun i H v H' => ∃ T x y z, v = .ref T ∧ H T = none ∧ H' = upd H T (.tup [x, y, z]) ∧ (∀ xs, SqB K H t1 a xs → xs[i]? = some x) ∧ (∀ ys, SqB K H t2 b ys → ys[i]? = some y) ∧ ∀ zs, SqB K H t3 c zs → zs[i]? = some z,
    fun i H => ∃ xs ys zs : List V, SqB K H t1 a xs ∧ SqB K H t2 b ys ∧ SqB K H t3 c zs ∧ i = min (min xs.length ys.length) zs.length⟩
theorem zipTup_obj {h : Heap} {T : Addr} {vs : Array Value} (e : h.get? T = some { cls := .type "tuple", data := .seq vs }) : ∃ o, h.get? T = some o ∧ ∀ v, o.data ≠ .cell v := ⟨_, e, fun v q => nomatch q⟩
theorem turn_z2 {P : Program} {w : World} {K : Fr_} {elts : List Expr} {kk : Nat} {tpos : Pos} {t1 t2 : Bool} {a b z TI TO i1 i2 : Addr} (S : ZipSep2 z TI TO i1 i2 [i1, a] [i2, b]) (ha : a ≠ i1) (hb : b ≠ i2) :
    Turn P w K (.Tuple elts kk tpos) (ItZ2 K t1 a t2 b) [z, TI, TO, i1, i2] z (fun i h => IsZip h z TI TO .none ∧ IsTupOf2 h TI (.ref i1) (.ref i2) ∧ (∃ x y, IsTupOf2 h TO x y) ∧ IterB t1 h i1 a i ∧ IterB t2 h i2 b i) := by
  refine turn_walk (wr := [z, TO, i1, i2]) _ _ List.mem_cons_self (fun b hb => by simp at hb ⊢; rcases hb with q | q | q | q <;> simp [q]) (fun i h ⟨h1, h2, ⟨x, y, h3⟩, h4, h5⟩ c hc => ?_) (fun i h h' ⟨h1, h2, ⟨x, y, h3⟩, h4, h5⟩ k => ⟨k z (by simp) _ h1, k TI (by simp) _ h2, ⟨x, y, k TO (by simp) _ h3⟩, iterB_keep h4 fun o => k i1 (by simp) o, iterB_keep h5 fun o => k i2 (by simp) o⟩)
    (fun X hP hw hK hc i pins s σ H I gs st => ?_) fun A i s Q E st h => wpAny_pyIter_zip st.1 h
  · have e' : c = z ∨ c = TI ∨ c = TO ∨ c = i1 ∨ c = i2 := by simpa using hc
    rcases e' with q | q | q | q | q
    · rw [q]
      exact ⟨_, h1, fun v q => nomatch q⟩
    · rw [q]
      exact zipTup_obj h2
    · rw [q]
      exact zipTup_obj h3
    · rw [q]
      exact iterB_obj h4
    · rw [q]
      exact iterB_obj h5
  · subst hP hw hK
    have hx : ∃ xs ys, SqB X.K H t1 a xs ∧ SqB X.K H t2 b ys := by
      rcases gs with ⟨xs, ys, h1, h2, _⟩ | ⟨xs, ys, h1, h2, _⟩
      · exact ⟨xs, ys, h1, h2⟩
      · exact ⟨xs, ys, h1, h2⟩
    obtain ⟨xs, ys, hx, hy⟩ := hx
    obtain ⟨its, rv, p, _, _⟩ := inv_seqB I hx
    obtain ⟨its2, rv2, p2, _, _⟩ := inv_seqB I hy
    have hh : X.A.in1.handled = none := I.ok.hd hc
    obtain ⟨g1, g2, g3, g4, g5⟩ := st
    refine ⟨_, _, _, _, _, WalksT.zipD2 S (drawsB hh t1 i1 a ha its.toArray) (drawsB hh t2 i2 b hb its2.toArray), ⟨g1, g2, g3, ⟨g4, p⟩, ⟨g5, p2⟩⟩, fun j h ⟨q1, q2, q3, q4, q5⟩ => ⟨q1, q2, q3, q4.1, q5.1⟩, fun ⟨us, vs, h1, h2, l1, l2⟩ => ?_, fun ⟨us, vs, h1, h2, hl⟩ => ?_⟩
    · have e1 := inv_seqB_inj I h1 hx
      have e2 := inv_seqB_inj I h2 hy
      subst e1 e2
      refine ⟨?_, fun vals ⟨u1, u2, q1, q2, ev⟩ => ⟨[us[i], vs[i]], ?_, by show 2 ≤ sizeLine; decide, fun T hT => ⟨T, us[i], vs[i], rfl, hT, rfl, fun ws hw => by rw [inv_seqB_inj I hw h1]; exact List.getElem?_eq_getElem l1, fun ws hw => by rw [inv_seqB_inj I hw h2]; exact List.getElem?_eq_getElem l2⟩⟩⟩
      · rw [List.size_toArray, List.size_toArray, ← rv.length, ← rv2.length]
        omega
      · rw [ev]
        exact .cons (vals_at rv (List.getElem?_eq_getElem l1) q1) (.cons (vals_at rv2 (List.getElem?_eq_getElem l2) q2) .nil)
    · rw [inv_seqB_inj I h1 hx, inv_seqB_inj I h2 hy] at hl
      rw [hl, List.size_toArray, List.size_toArray, rv.length, rv2.length]
theorem turn_z3 {P : Program} {w : World} {K : Fr_} {elts : List Expr} {kk : Nat} {tpos : Pos} {t1 t2 t3 : Bool} {a b c z TI TO i1 i2 i3 : Addr} (S : ZipSep3 z TI TO i1 i2 i3 [i1, a] [i2, b] [i3, c]) (ha : a ≠ i1) (hb : b ≠ i2) (hcc : c ≠ i3) :
    Turn P w K (.Tuple elts kk tpos) (ItZ3 K t1 a t2 b t3 c) [z, TI, TO, i1, i2, i3] z (fun i h => IsZip h z TI TO .none ∧ IsTupOf3 h TI (.ref i1) (.ref i2) (.ref i3) ∧ (∃ x y u, IsTupOf3 h TO x y u) ∧ IterB t1 h i1 a i ∧ IterB t2 h i2 b i ∧ IterB t3 h i3 c i) := by
  refine turn_walk (wr := [z, TO, i1, i2, i3]) _ _ List.mem_cons_self (fun b hb => by simp at hb ⊢; rcases hb with q | q | q | q | q <;> simp [q]) (fun i h ⟨h1, h2, ⟨x, y, u, h3⟩, h4, h5, h6⟩ d hd => ?_) (fun i h h' ⟨h1, h2, ⟨x, y, u, h3⟩, h4, h5, h6⟩ k => ⟨k z (by simp) _ h1, k TI (by simp) _ h2, ⟨x, y, u, k TO (by simp) _ h3⟩, iterB_keep h4 fun o => k i1 (by simp) o, iterB_keep h5 fun o => k i2 (by simp) o, iterB_keep h6 fun o => k i3 (by simp) o⟩)
    (fun X hP hw hK hc i pins s σ H I gs st => ?_) fun A i s Q E st h => wpAny_pyIter_zip st.1 h
  · have e' : d = z ∨ d = TI ∨ d = TO ∨ d = i1 ∨ d = i2 ∨ d = i3 := by simpa using hd
    rcases e' with q | q | q | q | q | q
    · rw [q]
      exact ⟨_, h1, fun v q => nomatch q⟩
    · rw [q]
      exact zipTup_obj h2
    · rw [q]
      exact zipTup_obj h3
    · rw [q]
      exact iterB_obj h4
    · rw [q]
      exact iterB_obj h5
    · rw [q]
      exact iterB_obj h6
  · subst hP hw hK
    have hx : ∃ xs ys zs, SqB X.K H t1 a xs ∧ SqB X.K H t2 b ys ∧ SqB X.K H t3 c zs := by
      rcases gs with ⟨xs, ys, zs, h1, h2, h3, _⟩ | ⟨xs, ys, zs, h1, h2, h3, _⟩
      · exact ⟨xs, ys, zs, h1, h2, h3⟩
      · exact ⟨xs, ys, zs, h1, h2, h3⟩
    obtain ⟨xs, ys, zs, hx, hy, hz⟩ := hx
    obtain ⟨its, rv, p, _, _⟩ := inv_seqB I hx
    obtain ⟨its2, rv2, p2, _, _⟩ := inv_seqB I hy
    obtain ⟨its3, rv3, p3, _, _⟩ := inv_seqB I hz
    have hh : X.A.in1.handled = none := I.ok.hd hc
    obtain ⟨g1, g2, g3, g4, g5, g6⟩ := st
    refine ⟨_, _, _, _, _, WalksT.zipD3 S (drawsB hh t1 i1 a ha its.toArray) (drawsB hh t2 i2 b hb its2.toArray) (drawsB hh t3 i3 c hcc its3.toArray), ⟨g1, g2, g3, ⟨g4, p⟩, ⟨g5, p2⟩, ⟨g6, p3⟩⟩, fun j h ⟨q1, q2, q3, q4, q5, q6⟩ => ⟨q1, q2, q3, q4.1, q5.1, q6.1⟩, fun ⟨us, vs, ws, h1, h2, h3, l1, l2, l3⟩ => ?_, fun ⟨us, vs, ws, h1, h2, h3, hl⟩ => ?_⟩
    · have e1 := inv_seqB_inj I h1 hx
      have e2 := inv_seqB_inj I h2 hy
      have e3 := inv_seqB_inj I h3 hz
      subst e1 e2 e3
      refine ⟨?_, fun vals ⟨u1, u2, u3, q1, q2, q3, ev⟩ => ⟨[us[i], vs[i], ws[i]], ?_, by show 3 ≤ sizeLine; decide, fun T hT => ⟨T, us[i], vs[i], ws[i], rfl, hT, rfl, fun qs hw => by rw [inv_seqB_inj I hw h1]; exact List.getElem?_eq_getElem l1, fun qs hw => by rw [inv_seqB_inj I hw h2]; exact List.getElem?_eq_getElem l2, fun qs hw => by rw [inv_seqB_inj I hw h3]; exact List.getElem?_eq_getElem l3⟩⟩⟩
      · rw [List.size_toArray, List.size_toArray, List.size_toArray, ← rv.length, ← rv2.length, ← rv3.length]
        omega
      · rw [ev]
        exact .cons (vals_at rv (List.getElem?_eq_getElem l1) q1) (.cons (vals_at rv2 (List.getElem?_eq_getElem l2) q2) (.cons (vals_at rv3 (List.getElem?_eq_getElem l3) q3) .nil))
    · rw [inv_seqB_inj I h1 hx, inv_seqB_inj I h2 hy, inv_seqB_inj I h3 hz] at hl
      rw [hl, List.size_toArray, List.size_toArray, List.size_toArray, rv.length, rv2.length, rv3.length]
/-- a row that stands still -/
def FzB (K : Fr_) (H : Hp) (t : Bool) (a : Addr) (xs : List V) : Prop := match t with
  | true => SqT K H a xs
  | false => Fz K H a xs
theorem FzB.sq {K : Fr_} {H : Hp} {t : Bool} {a : Addr} {xs : List V} (h : FzB K H t a xs) : SqB K H t a xs := match t, h with
  | true, h => h
  | false, h => Fz.sq (show Fz K H a xs from h)
theorem FzB.mono {K : Fr_} {H H' : Hp} (m : Mono H H') {t : Bool} {a : Addr} {xs : List V} (h : FzB K H t a xs) : FzB K H' t a xs := match t, h with
  | true, h => m.sqT h
  | false, h => m.fz h
theorem Rp.row {K : Fr_} {H : Hp} {v : V} {d : D} {ds : List D} (r : Rp K H v d) (e : iterD d = some ds) : ∃ t a xs, v = .ref a ∧ FzB K H t a xs ∧ RpA K H xs ds := by
  cases r with
  | lst h r =>
    cases e
    exact ⟨false, _, _, rfl, h, r⟩
  | tup h r =>
    cases e
    exact ⟨true, _, _, rfl, h, r⟩
  | _ => cases e
def zip2L (xs ys : List D) : List D := (xs.zip ys).map fun p => .tuple [p.1, p.2]
def zip3L (xs ys zs : List D) : List D := (xs.zip (ys.zip zs)).map fun p => .tuple [p.1, p.2.1, p.2.2]
def dZip2 : List D → Option (List D)
  | [x, y] => (iterD x).bind fun xs => (iterD y).map fun ys => zip2L xs ys
  | _ => none
def dZip3 : List D → Option (List D)
  | [x, y, z] => (iterD x).bind fun xs => (iterD y).bind fun ys => (iterD z).map fun zs => zip3L xs ys zs
  | _ => none
theorem itd_z2 {K : Fr_} {t1 t2 : Bool} {a b : Addr} {xs ys : List V} {ds es : List D} : ItD K (ItZ2 K t1 a t2 b) (zip2L ds es) (fun H => (FzB K H t1 a xs ∧ RpA K H xs ds) ∧ FzB K H t2 b ys ∧ RpA K H ys es) where
  goes := fun i H hi ⟨⟨h1, r1⟩, h2, r2⟩ => by
    unfold zip2L at hi
    rw [List.length_map, List.length_zip, ← r1.length, ← r2.length] at hi
    exact ⟨xs, ys, h1.sq, h2.sq, by omega, by omega⟩
  stops := fun H ⟨⟨h1, r1⟩, h2, r2⟩ => ⟨xs, ys, h1.sq, h2.sq, by unfold zip2L; rw [List.length_map, List.length_zip, r1.length, r2.length]⟩
  yields := fun i H x H' d hd ⟨⟨h1, r1⟩, h2, r2⟩ ⟨T, u, v, e1, hT, e2, q1, q2⟩ => by
    subst e1 e2
    unfold zip2L at hd
    rw [List.getElem?_map] at hd
    obtain ⟨⟨d1, d2⟩, hd1, rfl⟩ := Option.map_eq_some_iff.mp hd
    rw [List.getElem?_zip_eq_some] at hd1
    obtain ⟨w1, g1, p1⟩ := r1.get hd1.1
    obtain ⟨w2, g2, p2⟩ := r2.get hd1.2
    have e1 := q1 xs h1.sq
    have e2 := q2 ys h2.sq
    rw [g1] at e1
    rw [g2] at e2
    cases e1
    cases e2
    have s := Same.new (o := (.tup [u, v])) hT
    exact ⟨s, .tup (SqT.of upd_same) (.cons (p1.mono (.of_same s)) (.cons (p2.mono (.of_same s)) .nil))⟩
  stays := fun H H' ⟨⟨h1, r1⟩, h2, r2⟩ m => ⟨⟨h1.mono m, r1.mono m⟩, h2.mono m, r2.mono m⟩
theorem itd_z3 {K : Fr_} {t1 t2 t3 : Bool} {a b c : Addr} {xs ys zs : List V} {ds es fs : List D} : ItD K (ItZ3 K t1 a t2 b t3 c) (zip3L ds es fs) (fun H => (FzB K H t1 a xs ∧ RpA K H xs ds) ∧ (FzB K H t2 b ys ∧ RpA K H ys es) ∧ FzB K H t3 c zs ∧ RpA K H zs fs) where
  goes := fun i H hi ⟨⟨h1, r1⟩, ⟨h2, r2⟩, h3, r3⟩ => by
    unfold zip3L at hi
    rw [List.length_map, List.length_zip, List.length_zip, ← r1.length, ← r2.length, ← r3.length] at hi
    exact ⟨xs, ys, zs, h1.sq, h2.sq, h3.sq, by omega, by omega, by omega⟩
  stops := fun H ⟨⟨h1, r1⟩, ⟨h2, r2⟩, h3, r3⟩ => ⟨xs, ys, zs, h1.sq, h2.sq, h3.sq, by
    unfold zip3L
    rw [List.length_map, List.length_zip, List.length_zip, r1.length, r2.length, r3.length]
    omega⟩
  yields := fun i H x H' d hd ⟨⟨h1, r1⟩, ⟨h2, r2⟩, h3, r3⟩ ⟨T, u, v, q, e1, hT, e2, q1, q2, q3⟩ => by
    subst e1 e2
    unfold zip3L at hd
    rw [List.getElem?_map] at hd
    obtain ⟨⟨d1, d2, d3⟩, hd1, rfl⟩ := Option.map_eq_some_iff.mp hd
    rw [List.getElem?_zip_eq_some] at hd1
    obtain ⟨hd2, hd3⟩ := hd1
    rw [List.getElem?_zip_eq_some] at hd3
    obtain ⟨w1, g1, p1⟩ := r1.get hd2
    obtain ⟨w2, g2, p2⟩ := r2.get hd3.1
    obtain ⟨w3, g3, p3⟩ := r3.get hd3.2
    have e1 := q1 xs h1.sq
    have e2 := q2 ys h2.sq
    have e3 := q3 zs h3.sq
    rw [g1] at e1
    rw [g2] at e2
    rw [g3] at e3
    cases e1
    cases e2
    cases e3
    have s := Same.new (o := (.tup [u, v, q])) hT
    exact ⟨s, .tup (SqT.of upd_same) (.cons (p1.mono (.of_same s)) (.cons (p2.mono (.of_same s)) (.cons (p3.mono (.of_same s)) .nil)))⟩
  stays := fun H H' ⟨⟨h1, r1⟩, ⟨h2, r2⟩, h3, r3⟩ m => ⟨⟨h1.mono m, r1.mono m⟩, ⟨h2.mono m, r2.mono m⟩, h3.mono m, r3.mono m⟩
section
variable {X : Cx} {c : FC} {elts : List Expr} {kk : Nat} {tpos : Pos}
theorem pi_z2 {e e2 : Expr} {ta : TA} {p pos : Pos} (hg : Gl X "zip") (hm : X.mg "zip" = none) (ha : PA X [e, e2] ta) (hs : starEach [e, e2] X.env = (false, eval e X.env) :: starEach [e2] X.env := by rfl) (hpl : (backTo pos (starEach [e2] X.env)).any (·.1) = false := by rfl) :
    PI X (.Tuple elts kk tpos) (.Call (.Name "zip" p) [e, e2] [] pos) (fun σ H R => ta σ H fun vs H1 => ∃ t1 t2 a b xs ys, vs = [.ref a, .ref b] ∧ SqB X.K H1 t1 a xs ∧ SqB X.K H1 t2 b ys ∧ R (ItZ2 X.K t1 a t2 b) H1) := by
  refine ⟨fun pins s σ H R I h => ?_⟩
  refine Call_ (ld_blt I hg hm PyProof.Rows.boot_zip (PyProof.Rows.callWith_type1 (thn (ha.run pos pins s σ H _ I h) fun us s1 ⟨vs, H1, I1, r1, q1⟩ => ?_) hs hpl))
  obtain ⟨t1, t2, a, b, xs, ys, rfl, hq1, hq2, q⟩ := q1
  obtain ⟨u1, u2, rfl, ru1, ru2⟩ := vals2 r1
  cases ru1
  cases ru2
  obtain ⟨its, rv, p1, _, o1, ho1⟩ := inv_seqB I1 hq1
  obtain ⟨its2, rv2, p2, _, o2, ho2⟩ := inv_seqB I1 hq2
  have l1 : a < s1.heap.objs.size := Heap.lt_size ho1
  have l2 : b < s1.heap.objs.size := Heap.lt_size ho2
  refine zip_begins2 (beginsB t1 a its.toArray) (beginsB t2 b its2.toArray) p1 p2 fun h' hz hTI hTO g1 g2 hsz hk => wpAny_pyIter_zip hz ?_
  have I2 : Inv X pins σ H1 { s1 with heap := h' } := I1.kept (t' := s1.toks) hk
  have S := zip_sep2 (N := s1.heap.objs.size) (fp1 := [a]) (fp2 := [b]) (fun x hx => by rw [List.mem_singleton.mp hx]; exact l1) (fun x hx => by rw [List.mem_singleton.mp hx]; exact l2)
  refine ⟨s1.heap.objs.size + 4, [s1.heap.objs.size + 4, s1.heap.objs.size + 2, s1.heap.objs.size + 3, s1.heap.objs.size, s1.heap.objs.size + 1], _, _, H1, rfl, I2, turn_z2 S (Nat.ne_of_lt l1) (Nat.ne_of_lt (Nat.lt_succ_of_lt l2)), ⟨hz, hTI, ⟨_, _, hTO⟩, iterB_new g1, iterB_new g2⟩, fun x hx => ?_, q⟩
  have hle : s1.heap.objs.size ≤ x := by
    have e' : x = s1.heap.objs.size + 4 ∨ x = s1.heap.objs.size + 2 ∨ x = s1.heap.objs.size + 3 ∨ x = s1.heap.objs.size ∨ x = s1.heap.objs.size + 1 := by simpa using hx
    rcases e' with z | z | z | z | z <;> (rw [z]; first | exact Nat.le_refl _ | exact Nat.le_add_right _ _)
  exact I1.fpOk hle (I1.hok.fresh hle)
theorem pi_z3 {e e2 e3 : Expr} {ta : TA} {p pos : Pos} (hg : Gl X "zip") (hm : X.mg "zip" = none) (ha : PA X [e, e2, e3] ta) (hs : starEach [e, e2, e3] X.env = (false, eval e X.env) :: starEach [e2, e3] X.env := by rfl) (hpl : (backTo pos (starEach [e2, e3] X.env)).any (·.1) = false := by rfl) :
    PI X (.Tuple elts kk tpos) (.Call (.Name "zip" p) [e, e2, e3] [] pos) (fun σ H R => ta σ H fun vs H1 => ∃ t1 t2 t3 a b d xs ys zs, vs = [.ref a, .ref b, .ref d] ∧ SqB X.K H1 t1 a xs ∧ SqB X.K H1 t2 b ys ∧ SqB X.K H1 t3 d zs ∧ R (ItZ3 X.K t1 a t2 b t3 d) H1) := by
  refine ⟨fun pins s σ H R I h => ?_⟩
  refine Call_ (ld_blt I hg hm PyProof.Rows.boot_zip (PyProof.Rows.callWith_type1 (thn (ha.run pos pins s σ H _ I h) fun us s1 ⟨vs, H1, I1, r1, q1⟩ => ?_) hs hpl))
  obtain ⟨t1, t2, t3, a, b, d, xs, ys, zs, rfl, hq1, hq2, hq3, q⟩ := q1
  obtain ⟨u1, u2, u3, rfl, ru1, ru2, ru3⟩ : ∃ u1 u2 u3, us = [u1, u2, u3] ∧ RelV (.ref a) u1 ∧ RelV (.ref b) u2 ∧ RelV (.ref d) u3 := by
    cases r1 with
    | cons p q =>
      obtain ⟨w1, w2, e, r2, r3⟩ := vals2 q
      exact ⟨_, w1, w2, by rw [e], p, r2, r3⟩
  cases ru1
  cases ru2
  cases ru3
  obtain ⟨its, rv, p1, _, o1, ho1⟩ := inv_seqB I1 hq1
  obtain ⟨its2, rv2, p2, _, o2, ho2⟩ := inv_seqB I1 hq2
  obtain ⟨its3, rv3, p3, _, o3, ho3⟩ := inv_seqB I1 hq3
  have l1 : a < s1.heap.objs.size := Heap.lt_size ho1
  have l2 : b < s1.heap.objs.size := Heap.lt_size ho2
  have l3 : d < s1.heap.objs.size := Heap.lt_size ho3
  refine zip_begins3 (beginsB t1 a its.toArray) (beginsB t2 b its2.toArray) (beginsB t3 d its3.toArray) p1 p2 p3 fun h' hz hTI hTO g1 g2 g3 hsz hk => wpAny_pyIter_zip hz ?_
  have I2 : Inv X pins σ H1 { s1 with heap := h' } := I1.kept (t' := s1.toks) hk
  have S := zip_sep3 (N := s1.heap.objs.size) (fp1 := [a]) (fp2 := [b]) (fp3 := [d]) (fun x hx => by rw [List.mem_singleton.mp hx]; exact l1) (fun x hx => by rw [List.mem_singleton.mp hx]; exact l2) (fun x hx => by rw [List.mem_singleton.mp hx]; exact l3)
  refine ⟨s1.heap.objs.size + 5, [s1.heap.objs.size + 5, s1.heap.objs.size + 3, s1.heap.objs.size + 4, s1.heap.objs.size, s1.heap.objs.size + 1, s1.heap.objs.size + 2], _, _, H1, rfl, I2, turn_z3 S (Nat.ne_of_lt l1) (Nat.ne_of_lt (Nat.lt_succ_of_lt l2)) (Nat.ne_of_lt (Nat.lt_succ_of_lt (Nat.lt_succ_of_lt l3))), ⟨hz, hTI, ⟨_, _, _, hTO⟩, iterB_new g1, iterB_new g2, iterB_new g3⟩, fun x hx => ?_, q⟩
  have hle : s1.heap.objs.size ≤ x := by
    have e' : x = s1.heap.objs.size + 5 ∨ x = s1.heap.objs.size + 3 ∨ x = s1.heap.objs.size + 4 ∨ x = s1.heap.objs.size ∨ x = s1.heap.objs.size + 1 ∨ x = s1.heap.objs.size + 2 := by simpa using hx
    rcases e' with z | z | z | z | z | z <;> (rw [z]; first | exact Nat.le_refl _ | exact Nat.le_add_right _ _)
  exact I1.fpOk hle (I1.hok.fresh hle)
theorem z2_go {H1 : Hp} {R : It → Hp → Prop} {vs : List V} {xs ds : List D} (r1 : RpA X.K H1 vs xs) (e2 : dZip2 xs = some ds) (k : ∀ J Gd, ItD X.K J ds Gd → Gd H1 → R J H1) : ∃ t1 t2 a b xs ys, vs = [V.ref a, V.ref b] ∧ SqB X.K H1 t1 a xs ∧ SqB X.K H1 t2 b ys ∧ R (ItZ2 X.K t1 a t2 b) H1 := by
  unfold dZip2 at e2
  split at e2
  · rename_i x y
    obtain ⟨us, e3, e4⟩ := Option.bind_eq_some_iff.mp e2
    obtain ⟨ws, e5, rfl⟩ := Option.map_eq_some_iff.mp e4
    cases r1 with
    | cons p q =>
      cases q with
      | cons p' q' =>
        cases q'
        obtain ⟨t1, a, us', rfl, h1, r1⟩ := p.row e3
        obtain ⟨t2, b, ws', rfl, h2, r2⟩ := p'.row e5
        exact ⟨t1, t2, a, b, us', ws', rfl, h1.sq, h2.sq, k _ _ itd_z2 ⟨⟨h1, r1⟩, h2, r2⟩⟩
  · cases e2
theorem z3_go {H1 : Hp} {R : It → Hp → Prop} {vs : List V} {xs ds : List D} (r1 : RpA X.K H1 vs xs) (e2 : dZip3 xs = some ds) (k : ∀ J Gd, ItD X.K J ds Gd → Gd H1 → R J H1) : ∃ t1 t2 t3 a b d xs ys zs, vs = [V.ref a, V.ref b, V.ref d] ∧ SqB X.K H1 t1 a xs ∧ SqB X.K H1 t2 b ys ∧ SqB X.K H1 t3 d zs ∧ R (ItZ3 X.K t1 a t2 b t3 d) H1 := by
  unfold dZip3 at e2
  split at e2
  · rename_i x y z
    obtain ⟨us, e3, e4⟩ := Option.bind_eq_some_iff.mp e2
    obtain ⟨ws, e5, e6⟩ := Option.bind_eq_some_iff.mp e4
    obtain ⟨zs, e7, rfl⟩ := Option.map_eq_some_iff.mp e6
    cases r1 with
    | cons p q =>
      cases q with
      | cons p' q' =>
        cases q' with
        | cons p'' q'' =>
          cases q''
          obtain ⟨t1, a, us', rfl, h1, r1⟩ := p.row e3
          obtain ⟨t2, b, ws', rfl, h2, r2⟩ := p'.row e5
          obtain ⟨t3, d, zs', rfl, h3, r3⟩ := p''.row e7
          exact ⟨t1, t2, t3, a, b, d, us', ws', zs', rfl, h1.sq, h2.sq, h3.sq, k _ _ itd_z3 ⟨⟨h1, r1⟩, ⟨h2, r2⟩, h3, r3⟩⟩
  · cases e2
section
variable {Γ : Env_} {e e2 e3 : Expr} {p pos : Pos}
theorem di_zip2 {m : Option (List D)} (hm : X.mg "zip" = none) (h : DA X c Γ [e, e2] m) (hg : Gl X "zip" := by rfl) (hs : NoStar X [e, e2] := by exact ⟨rfl, rfl, trivial⟩) (hpl : (backTo pos (starEach [e2] X.env)).any (·.1) = false := by rfl) : DI X c Γ (.Tuple elts kk tpos) (.Call (.Name "zip" p) [e, e2] [] pos) (m.bind dZip2) := fun ds hd σ H R E k => by
  obtain ⟨x, e1, e4⟩ := Option.bind_eq_some_iff.mp hd
  exact sI_of (pi_z2 hg hm (pa_s hs) hs.1 hpl) (h x e1 σ H _ E fun v H1 s1 r1 => z2_go r1 e4 fun J Gd i g => k J H1 Gd s1 i g)
theorem di_zip3 {m : Option (List D)} (hm : X.mg "zip" = none) (h : DA X c Γ [e, e2, e3] m) (hg : Gl X "zip" := by rfl) (hs : NoStar X [e, e2, e3] := by exact ⟨rfl, rfl, rfl, trivial⟩) (hpl : (backTo pos (starEach [e2, e3] X.env)).any (·.1) = false := by rfl) : DI X c Γ (.Tuple elts kk tpos) (.Call (.Name "zip" p) [e, e2, e3] [] pos) (m.bind dZip3) := fun ds hd σ H R E k => by
  obtain ⟨x, e1, e4⟩ := Option.bind_eq_some_iff.mp hd
  exact sI_of (pi_z3 hg hm (pa_s hs) hs.1 hpl) (h x e1 σ H _ E fun v H1 s1 r1 => z3_go r1 e4 fun J Gd i g => k J H1 Gd s1 i g)
variable {T : Type} {G : T → Env_}
theorem dxi_zip2 {m : T → Option (List D × T)} (hm : X.mg "zip" = none) (h : DXA X c G [e, e2] m) (hg : Gl X "zip" := by rfl) (hs : NoStar X [e, e2] := by exact ⟨rfl, rfl, trivial⟩) (hpl : (backTo pos (starEach [e2] X.env)).any (·.1) = false := by rfl) : DXI X c G (.Tuple elts kk tpos) (.Call (.Name "zip" p) [e, e2] [] pos) (bindX m dZip2) := fun t ds t' hd σ H R E k => by
  obtain ⟨x, e1, e4⟩ := bindX_eq hd
  exact sI_of (pi_z2 hg hm (pa_s hs) hs.1 hpl) (h t x t' e1 σ H _ E fun v H1 E1 s1 r1 => z2_go r1 e4 fun J Gd i g => k J H1 Gd E1 s1 i g)
theorem dxi_zip3 {m : T → Option (List D × T)} (hm : X.mg "zip" = none) (h : DXA X c G [e, e2, e3] m) (hg : Gl X "zip" := by rfl) (hs : NoStar X [e, e2, e3] := by exact ⟨rfl, rfl, rfl, trivial⟩) (hpl : (backTo pos (starEach [e2, e3] X.env)).any (·.1) = false := by rfl) : DXI X c G (.Tuple elts kk tpos) (.Call (.Name "zip" p) [e, e2, e3] [] pos) (bindX m dZip3) := fun t ds t' hd σ H R E k => by
  obtain ⟨x, e1, e4⟩ := bindX_eq hd
  exact sI_of (pi_z3 hg hm (pa_s hs) hs.1 hpl) (h t x t' e1 σ H _ E fun v H1 E1 s1 r1 => z3_go r1 e4 fun J Gd i g => k J H1 Gd E1 s1 i g)
end
end
end DL

set_option Elab.async false
set_option linter.all false
set_option maxRecDepth 100000
set_option maxHeartbeats 2000000
set_option autoImplicit false
namespace DL
open PySem PySem.Spec PyProof.Rows L2
/-! ### defs: promises that hold where no guard stands (repr asks for that) -/
abbrev Sp0 := List V → Hp → VK → Prop
structure FnG (P : Program) (w : World) (K : Fr_) (mg : Str → Option Value) (base : Heap) (k : Nat) (f : Addr) (fd : FuncData) (ps : List Str) (sp : Sp0) : Prop where
  many : ∀ {vs : List V} {H : Hp} {Q : VK}, sp vs H Q → vs.length = ps.length
  runs : ∀ {A : Around} {outer : List Env} {s : Shared} {H : Hp} {args : Args} {us : List Value} {vs : List V} {Q : VK}, Room k A → A.guards = some [] → Env0 P w K mg base A outer s H → BindsTo s fd args (ps.zip us) → Vals vs us → sp vs H Q →
    codeAny (model P w) A (.call (.ref f) args) (CR CX0 outer P w H s Q E0) s
structure CalG (P : Program) (w : World) (K : Fr_) (mg : Str → Option Value) (base : Heap) (k : Nat) (x : Str) (sp : Sp0) : Prop where
  ex : ∃ (f : Addr) (fd : FuncData) (ps : List Str), FnG P w K mg base k f fd ps sp ∧ mg x = some (.ref f) ∧ PySem.W.keepIn K (.ref f) = true ∧ Binds K fd ps []
theorem CalG.up {P : Program} {w : World} {K : Fr_} {mg : Str → Option Value} {base : Heap} {j k : Nat} {x : Str} {sp : Sp0} (c : CalG P w K mg base j x sp) (h : j ≤ k) : CalG P w K mg base k x sp := by
  obtain ⟨f, fd, ps, F, r⟩ := c.ex
  exact ⟨f, fd, ps, ⟨F.many, fun hr => F.runs (hr.mono h)⟩, r⟩
/-- the context of a body that lets nothing out -/
abbrev BX (P : Program) (w : World) (K : Fr_) (mg : Str → Option Value) (base : Heap) (N : List Str) (x : Str) (scope : Scope) (f : Addr) (cdv : Value) (A : Around) (outer : List Env) (s : Shared) (H : Hp) : Cx := (cxOf CX0 P w K mg base N x scope f cdv A outer s H E0).nox
section
variable {P : Program} {w : World} {K : Fr_} {mg : Str → Option Value} {base : Heap} {x : Str} {params : Arguments} {body : List Stmt} {scope : Scope} {N ps : List Str} {k : Nat} {sp : Sp0}
/-- a def by its body's own meaning -/
theorem calG_of (F : ∃ (f : Addr) (fd : FuncData), FunD K x x params body scope [] [] f fd ∧ mg x = some (.ref f)) (S : FnScope N ps scope)
    (hb : ∀ (kV doc pm : Value) (an : Option Addr) (cdv ct : Value) (us : List Value), us.length = ps.length → bindArgs (PySem.W.fnOf x x params body scope .none kV doc pm an cdv ct) ⟨us, []⟩ = pure (ps.zip us))
    (many : ∀ {vs : List V} {H : Hp} {Q : VK}, sp vs H Q → vs.length = ps.length)
    (run : ∀ (f : Addr) (cdv : Value) (A : Around) (outer : List Env) (s : Shared) (H : Hp) (vs : List V) (Q : VK), Room k (A.deeper (envOfC x scope s.heap.objs.size f cdv)) → A.guards = some [] → sp vs H Q →
      sSs (BX P w K mg base N x scope f cdv A outer s H) body { nx := fun _ H' => Q .non H', rt := Q } (L2.start N vs) H) : CalG P w K mg base (k + 1) x sp := by
  obtain ⟨f, fd, FD, hm⟩ := F
  have hbd : Binds K fd ps [] := FD.bindsN hb
  refine ⟨f, fd, ps, ⟨many, ?_⟩, hm, FD.kp, hbd⟩
  obtain ⟨oc, od, dV, kV, doc, pm, an, cdv, ct, osl, rfl, lk, hcd, _, _⟩ := FD.ex
  intro A outer s H args us vs Q room gd env bt rv hsp
  have hK : K.In s.heap := env.mod.kin.keeps fun b o e => (env.bs b o e).1
  have hL : s.heap.NoLimit := env.mod.nolimit.keeps fun b o e => (env.bs b o e).1
  have kinds : ∀ y ∈ ps.zip us, scope.names.lookup y.1 = some .local ∨ (scope.names.lookup y.1 = some .cell ∧ ((cellsFrom (s.heap.objs.size + 1) scope.names []).lookup y.1).isSome = true) := by
    intro y hy
    have z := S.par y.1 (List.of_mem_zip hy).1
    exact z.imp id fun q => ⟨q, PySem.W.cellsFrom_some _ _ _ (.inl q)⟩
  apply codeAny_call_function room.depth (hK _ _ lk) rfl S.co S.gen rfl (PySem.W.codeRec_of hK hcd)
  apply bt
  refine wpAny_newFunctionEnv_cells S.kind kinds fun env' he s1 inC => ?_
  subst he
  refine ⟨hL.keeps inC.toInCall.keep, codeAny_func ?_⟩
  have I0 := inv_start (CX := CX0) (E := E0) (P := P) (w := w) (K := K) (mg := mg) (base := base) S room.hd env (many hsp) rv inC
  have body_ := (pss_s body).nox.run [] s1 (L2.start N vs) H _ I0 (run f cdv A outer s H vs Q (room.deeper _) gd hsp)
  refine wpAny_mono body_ (fun fl s' hs => ?_) fun e s' hs => hs
  have done : ∀ {σ' : L2.St} {H' : Hp} {v : V} {u : Value}, Inv (cxOf CX0 P w K mg base N x scope f cdv A outer s H E0) [] σ' H' s' → RelV v u → Q v H' → CE outer P w H s Q u s' := by
    intro σ' H' v u J r q
    exact ⟨v, H', J.os, J.bare, J.base, J.hok, r, q⟩
  match fl, hs with
  | .ret u, ⟨v, σ', H', J, r, q⟩ => exact done J r q
  | .next, ⟨σ', H', J, q⟩ => exact done (v := V.non) (u := Value.none) J rfl q
  | .brk, ⟨_, _, _, q⟩ => exact q.elim
  | .cont, ⟨_, _, _, q⟩ => exact q.elim
end
/-! calls -/
section
variable {X : Cx} {k : Nat} {x : Str} {sp : Sp0} {p pos : Pos} {e : Expr} {es : List Expr} {t : TA}
theorem pe_callG (F : CalG X.prog X.w X.K X.mg X.base k x sp) (room : Room k X.A) (gd : X.A.guards = some []) (hg : Gl X x) (ha : PA X (e :: es) t) (hdb : (x == ("__debug__" : Str)) = false) (he : starEach (e :: es) X.env = (false, eval e X.env) :: starEach es X.env) (hpl : (backTo pos (starEach es X.env)).any (·.1) = false) :
    PE X (.Call (.Name x p) (e :: es) [] pos) (fun σ H Q => t σ H fun vs H1 => sp vs H1 Q) := by
  obtain ⟨f, fd, ps, FF, hm, hk, hb⟩ := F.ex
  constructor
  intro pins s σ H Q I h
  apply wpAny_Call_Name_kw
  apply ld_glob I hg hm _ hdb
  refine PySem.W.callWith_K (h₀ := X.base) I.ok.mod.kin hk (thn (ha.run pos pins s σ H _ I h) fun us s1 ⟨vs, H1, I1, r, q⟩ => ⟨I1.kIn, ?_⟩) he hpl
  have hl : us.length = ps.length := r.length.symm.trans (FF.many q)
  have bt := hb s1 us I1.kIn (by rw [List.append_nil]; exact hl)
  rw [List.append_nil] at bt
  refine wpAny_call (codeAny_mono (FF.runs (args := ⟨us, []⟩) room gd I1.env0 bt r q) fun rr s' hq => ?_)
  match rr, hq with
  | .ok (.ret u), hq => exact I1.after hq
theorem pe_callG0 (F : CalG X.prog X.w X.K X.mg X.base k x sp) (room : Room k X.A) (gd : X.A.guards = some []) (hg : Gl X x) (hdb : (x == ("__debug__" : Str)) = false) : PE X (.Call (.Name x p) [] [] pos) (fun σ H Q => sp [] H Q) := by
  obtain ⟨f, fd, ps, FF, hm, hk, hb⟩ := F.ex
  constructor
  intro pins s σ H Q I h
  apply wpAny_Call_Name_kw
  apply ld_glob I hg hm _ hdb
  refine PySem.W.callWith_K0 I.kIn hk ?_
  have hl : ([] : List Value).length = ps.length := FF.many h
  have bt := hb s [] I.kIn hl
  refine wpAny_call (codeAny_mono (FF.runs (args := ⟨[], []⟩) room gd I.env0 bt .nil h) fun rr s' hq => ?_)
  match rr, hq with
  | .ok (.ret u), hq => exact I.after hq
end
/-! promises -/
def spP (K : Fr_) (g : List D → Option D) : Sp0 := fun vs H Q => ∃ ds z, RpA K H vs ds ∧ g ds = some z ∧ ∀ v H', Same H H' → Rp K H' v z → Q v H'
def spF (K : Fr_) (g : List D → Option (List D)) : Sp0 := fun vs H Q => ∃ ds z, RpA K H vs ds ∧ g ds = some z ∧ ∀ a H' xs, H a = none → Same H H' → H' a = some (.lst xs) → RpA K H' xs z → Q (.ref a) H'
/-- the first parameter is a list that the def may change -/
def spM (K : Fr_) (g : List D → List D → Option (D × List D)) : Sp0 := fun vs H Q => ∃ a us xs ps ds z ps', vs = V.ref a :: us ∧ H a = some (.lst xs) ∧ RpA K H xs ps ∧ RpA K H us ds ∧ g ps ds = some (z, ps') ∧
  ∀ v H' ys, (∀ b o, H b = some o → b ≠ a → H' b = some o) → H' a = some (.lst ys) → RpA K H' ys ps' → Rp K H' v z → Q v H'
def spMF (K : Fr_) (g : List D → List D → Option (List D × List D)) : Sp0 := fun vs H Q => ∃ a us xs ps ds z ps', vs = V.ref a :: us ∧ H a = some (.lst xs) ∧ RpA K H xs ps ∧ RpA K H us ds ∧ g ps ds = some (z, ps') ∧
  ∀ b H' ys zs, H b = none → (∀ b o, H b = some o → b ≠ a → H' b = some o) → H' a = some (.lst ys) → RpA K H' ys ps' → H' b = some (.lst zs) → RpA K H' zs z → Q (.ref b) H'
def envP (n : Nat) (ds : List D) : Env_ := ds.map .imm ++ List.replicate (n - ds.length) .any
theorem start_at {N : List Str} {vs : List V} {i : Nat} {v : V} (h : vs[i]? = some v) : (L2.start N vs)[i]? = some (some v) := by
  unfold L2.start
  have hl := (List.getElem?_eq_some_iff.mp h).1
  rw [List.getElem?_append_left (by rw [List.length_map]; exact hl), List.getElem?_map, h]
  rfl
theorem envP_own {n : Nat} {ds : List D} {i : Nat} {k : Cell} (h : (envP n ds)[i]? = some k) : k.isOwn = false := by
  unfold envP at h
  rcases List.mem_append.mp (List.mem_of_getElem? h) with z | z
  · obtain ⟨d, _, rfl⟩ := List.mem_map.mp z
    rfl
  · rw [List.eq_of_mem_replicate z]
    rfl
theorem env_start {K : Fr_} {H : Hp} {N : List Str} {vs : List V} {ds : List D} (r : RpA K H vs ds) (hl : ds.length ≤ N.length) : EnvOk K ⟨H, []⟩ (L2.start N vs) H (envP N.length ds) := by
  refine ⟨fun i k h => ?_, fun i j k l a hij h1 h2 => ?_, fun b o h _ => h, fun a ⟨i, k, h1, h2, _⟩ => ?_, fun p hp => (by cases hp), ?_⟩
  · by_cases hi : i < ds.length
    · unfold envP at h
      rw [List.getElem?_append_left (by rw [List.length_map]; exact hi), List.getElem?_map, List.getElem?_eq_getElem hi] at h
      cases h
      obtain ⟨v, e1, e2⟩ := r.get (List.getElem?_eq_getElem hi)
      exact ⟨v, start_at e1, e2⟩
    · unfold envP at h
      rw [List.getElem?_append_right (by rw [List.length_map]; omega)] at h
      rw [List.eq_of_mem_replicate (List.mem_of_getElem? h)]
      trivial
  · rw [envP_own h1] at h2
    cases h2
  · rw [envP_own h1] at h2
    cases h2
  · unfold L2.start envP
    rw [List.length_append, List.length_append, List.length_map, List.length_map, List.length_replicate, List.length_replicate, r.length]
def envM (n : Nat) (ps ds : List D) : Env_ := .own ps :: (ds.map .imm ++ List.replicate (n - 1 - ds.length) .any)
theorem env_startM {K : Fr_} {H : Hp} {N : List Str} {a : Addr} {us xs : List V} {ps ds : List D} (ha : H a = some (.lst xs)) (rp : RpA K H xs ps) (r : RpA K H us ds) (hl : ds.length + 1 ≤ N.length) : EnvOk K ⟨H, [(0, a)]⟩ (L2.start N (.ref a :: us)) H (envM N.length ps ds) := by
  have tail : ∀ {i : Nat} {k : Cell}, (envM N.length ps ds)[i + 1]? = some k → (envP (N.length - 1) ds)[i]? = some k := fun h => h
  have own0 : ∀ {i : Nat} {k : Cell}, (envM N.length ps ds)[i]? = some k → k.isOwn = true → i = 0 := fun {i k} h ho => by
    cases i with
    | zero => rfl
    | succ i =>
      rw [envP_own (tail h)] at ho
      cases ho
  refine ⟨fun i k h => ?_, fun i j k l b hij h1 h2 h3 h4 _ _ => hij ((own0 h1 h2).trans (own0 h3 h4).symm), fun b o h _ => h, fun b ⟨i, k, h1, h2, h3⟩ => ?_, fun p hp => ?_, ?_⟩
  · cases i with
    | zero =>
      cases h
      exact ⟨a, xs, start_at rfl, ha, rp⟩
    | succ i =>
      have h' := tail h
      by_cases hi : i < ds.length
      · unfold envP at h'
        rw [List.getElem?_append_left (by rw [List.length_map]; exact hi), List.getElem?_map, List.getElem?_eq_getElem hi] at h'
        cases h'
        obtain ⟨v, e1, e2⟩ := r.get (List.getElem?_eq_getElem hi)
        exact ⟨v, start_at (by simpa using e1), e2⟩
      · unfold envP at h'
        rw [List.getElem?_append_right (by rw [List.length_map]; omega)] at h'
        rw [List.eq_of_mem_replicate (List.mem_of_getElem? h')]
        trivial
  · have e := own0 h1 h2
    subst e
    rw [start_at (v := V.ref a) rfl] at h3
    cases h3
    exact .inl ⟨(0, a), List.mem_singleton.mpr rfl, rfl⟩
  · rw [List.mem_singleton.mp hp]
    exact ⟨start_at rfl, _, rfl, rfl⟩
  · unfold L2.start envM
    have := r.length
    simp only [List.length_append, List.length_cons, List.length_map, List.length_replicate]
    omega
/-! ends -/
abbrev GE : Empty → Env_ := fun e => nomatch e
def RKp (K : Fr_) (H : Hp) : D → V → Hp → Prop := fun d v H' => Same H H' ∧ Rp K H' v d
def RKf (K : Fr_) (H : Hp) : List D → V → Hp → Prop := fun d v H' => Same H H' ∧ ∃ a xs, v = .ref a ∧ H a = none ∧ H' a = some (.lst xs) ∧ RpA K H' xs d
def RKm (K : Fr_) (H : Hp) (a : Addr) : D × List D → V → Hp → Prop := fun q v H' => (∀ b o, H b = some o → b ≠ a → H' b = some o) ∧ (∃ ys, H' a = some (.lst ys) ∧ RpA K H' ys q.2) ∧ Rp K H' v q.1
def RKmf (K : Fr_) (H : Hp) (a : Addr) : List D × List D → V → Hp → Prop := fun q v H' => (∀ b o, H b = some o → b ≠ a → H' b = some o) ∧ (∃ ys, H' a = some (.lst ys) ∧ RpA K H' ys q.2) ∧ ∃ b zs, v = .ref b ∧ H b = none ∧ H' b = some (.lst zs) ∧ RpA K H' zs q.1
theorem EnvOk.same0 {K : Fr_} {H H' : Hp} {σ : St} {Γ : Env_} (E : EnvOk K ⟨H, []⟩ σ H' Γ) : Same H H' := fun b o h => E.pres b o h fun p hp => by cases hp
theorem EnvOk.but {K : Fr_} {H H' : Hp} {a : Addr} {σ : St} {Γ : Env_} (E : EnvOk K ⟨H, [(0, a)]⟩ σ H' Γ) : ∀ b o, H b = some o → b ≠ a → H' b = some o := fun b o h hne => E.pres b o h fun p hp e => hne (by rw [List.mem_singleton.mp hp] at e; exact e.symm)
theorem EnvOk.pot {K : Fr_} {H H' : Hp} {a : Addr} {σ : St} {Γ : Env_} {ps : List D} (E : EnvOk K ⟨H, [(0, a)]⟩ σ H' Γ) (h : Γ[0]? = some (.own ps)) : ∃ ys, H' a = some (.lst ys) ∧ RpA K H' ys ps := by
  obtain ⟨b, xs, e1, e2, e3⟩ := E.ownAt h
  have e4 := (E.pins (0, a) (List.mem_singleton.mpr rfl)).1
  rw [e4] at e1
  cases e1
  exact ⟨xs, e2, e3⟩
theorem rkp {K : Fr_} {H : Hp} {Γ : Env_} : ∀ (d : D) (v : V) (σ : St) (H' : Hp), EnvOk K ⟨H, []⟩ σ H' Γ → Rp K H' v d → RKp K H d v H' := fun d v σ H' E r => ⟨E.same0, r⟩
theorem rkf {K : Fr_} {H : Hp} {Γ : Env_} : ∀ (d : List D) (a : Addr) (xs : List V) (σ : St) (H' : Hp), EnvOk K ⟨H, []⟩ σ H' Γ → H a = none → H' a = some (.lst xs) → RpA K H' xs d → RKf K H d (.ref a) H' := fun d a xs σ H' E h0 ha r => ⟨E.same0, a, xs, rfl, h0, ha, r⟩
theorem rkm {K : Fr_} {H : Hp} {a : Addr} {Γ : Env_} {ps : List D} (h : Γ[0]? = some (.own ps) := by rfl) : ∀ (d : D) (v : V) (σ : St) (H' : Hp), EnvOk K ⟨H, [(0, a)]⟩ σ H' Γ → Rp K H' v d → RKm K H a (d, ps) v H' := fun d v σ H' E r => ⟨E.but, E.pot h, r⟩
theorem rkmf {K : Fr_} {H : Hp} {a : Addr} {Γ : Env_} {ps : List D} (h : Γ[0]? = some (.own ps) := by rfl) : ∀ (d : List D) (b : Addr) (xs : List V) (σ : St) (H' : Hp), EnvOk K ⟨H, [(0, a)]⟩ σ H' Γ → H b = none → H' b = some (.lst xs) → RpA K H' xs d → RKmf K H a (d, ps) (.ref b) H' := fun d b xs σ H' E h0 hb r => ⟨E.but, E.pot h, b, xs, rfl, h0, hb, r⟩
def finP : Fl Unit Empty D → Option D
  | .rt d => some d
  | .nx _ => some .none
  | _ => none
def finF : Fl Unit Empty (List D) → Option (List D)
  | .rt d => some d
  | _ => none
def finM : Fl (List D) Empty (D × List D) → Option (D × List D)
  | .rt d => some d
  | .nx ps => some (.none, ps)
  | _ => none
def finMF : Fl (List D) Empty (List D × List D) → Option (List D × List D)
  | .rt d => some d
  | _ => none
section
variable {P : Program} {w : World} {K : Fr_} {mg : Str → Option Value} {base : Heap} {x : Str} {params : Arguments} {body : List Stmt} {scope : Scope} {N ps : List Str} {k : Nat}
theorem calP (F : ∃ (f : Addr) (fd : FuncData), FunD K x x params body scope [] [] f fd ∧ mg x = some (.ref f)) (S : FnScope N ps scope)
    (hb : ∀ (kV doc pm : Value) (an : Option Addr) (cdv ct : Value) (us : List Value), us.length = ps.length → bindArgs (PySem.W.fnOf x x params body scope .none kV doc pm an cdv ct) ⟨us, []⟩ = pure (ps.zip us)) (hN : ps.length ≤ N.length)
    (mb : List D → Option (Fl Unit Empty D)) (hl : ∀ ds o, mb ds = some o → ds.length = ps.length)
    (run : ∀ (f : Addr) (cdv : Value) (A : Around) (outer : List Env) (s : Shared) (H : Hp) (ds : List D), ds.length = ps.length → Room k (A.deeper (envOfC x scope s.heap.objs.size f cdv)) → A.guards = some [] →
      DB (BX P w K mg base N x scope f cdv A outer s H) ⟨H, []⟩ (fun _ => List.replicate N.length .any) GE (RKp K H) (envP N.length ds) body (mb ds)) : CalG P w K mg base (k + 1) x (spP K fun ds => (mb ds).bind finP) := by
  refine calG_of F S hb (fun {vs H Q} ⟨ds, z, r, e, _⟩ => ?_) fun f cdv A outer s H vs Q room gd ⟨ds, z, r, e, kq⟩ => ?_
  · obtain ⟨o, e1, _⟩ := Option.bind_eq_some_iff.mp e
    rw [r.length, hl ds o e1]
  · obtain ⟨o, e1, e2⟩ := Option.bind_eq_some_iff.mp e
    have hd := hl ds o e1
    refine run f cdv A outer s H ds hd room gd o e1 _ H _ (env_start r (by rw [hd]; exact hN)) ⟨?_, fun b => (nomatch b), fun b => (nomatch b), ?_⟩
    · rintro n rfl σ' H' E _
      cases e2
      exact kq _ _ E.same0 .non
    · rintro d rfl v H' ⟨q1, q2⟩
      cases e2
      exact kq v H' q1 q2
theorem calF (F : ∃ (f : Addr) (fd : FuncData), FunD K x x params body scope [] [] f fd ∧ mg x = some (.ref f)) (S : FnScope N ps scope)
    (hb : ∀ (kV doc pm : Value) (an : Option Addr) (cdv ct : Value) (us : List Value), us.length = ps.length → bindArgs (PySem.W.fnOf x x params body scope .none kV doc pm an cdv ct) ⟨us, []⟩ = pure (ps.zip us)) (hN : ps.length ≤ N.length)
    (mb : List D → Option (Fl Unit Empty (List D))) (hl : ∀ ds o, mb ds = some o → ds.length = ps.length)
    (run : ∀ (f : Addr) (cdv : Value) (A : Around) (outer : List Env) (s : Shared) (H : Hp) (ds : List D), ds.length = ps.length → Room k (A.deeper (envOfC x scope s.heap.objs.size f cdv)) → A.guards = some [] →
      DB (BX P w K mg base N x scope f cdv A outer s H) ⟨H, []⟩ (fun _ => List.replicate N.length .any) GE (RKf K H) (envP N.length ds) body (mb ds)) : CalG P w K mg base (k + 1) x (spF K fun ds => (mb ds).bind finF) := by
  refine calG_of F S hb (fun {vs H Q} ⟨ds, z, r, e, _⟩ => ?_) fun f cdv A outer s H vs Q room gd ⟨ds, z, r, e, kq⟩ => ?_
  · obtain ⟨o, e1, _⟩ := Option.bind_eq_some_iff.mp e
    rw [r.length, hl ds o e1]
  · obtain ⟨o, e1, e2⟩ := Option.bind_eq_some_iff.mp e
    have hd := hl ds o e1
    refine run f cdv A outer s H ds hd room gd o e1 _ H _ (env_start r (by rw [hd]; exact hN)) ⟨?_, fun b => (nomatch b), fun b => (nomatch b), ?_⟩
    · rintro n rfl σ' H' E _
      cases e2
    · rintro d rfl v H' ⟨q1, a, xs, rfl, q2, q3, q4⟩
      cases e2
      exact kq a H' xs q2 q1 q3 q4
theorem calM (F : ∃ (f : Addr) (fd : FuncData), FunD K x x params body scope [] [] f fd ∧ mg x = some (.ref f)) (S : FnScope N ps scope)
    (hb : ∀ (kV doc pm : Value) (an : Option Addr) (cdv ct : Value) (us : List Value), us.length = ps.length → bindArgs (PySem.W.fnOf x x params body scope .none kV doc pm an cdv ct) ⟨us, []⟩ = pure (ps.zip us)) (hN : ps.length ≤ N.length)
    (mb : List D → List D → Option (Fl (List D) Empty (D × List D))) (hl : ∀ qs ds o, mb qs ds = some o → ds.length + 1 = ps.length)
    (run : ∀ (f : Addr) (cdv : Value) (A : Around) (outer : List Env) (s : Shared) (H : Hp) (a : Addr) (qs ds : List D), ds.length + 1 = ps.length → Room k (A.deeper (envOfC x scope s.heap.objs.size f cdv)) → A.guards = some [] →
      DB (BX P w K mg base N x scope f cdv A outer s H) ⟨H, [(0, a)]⟩ (fun qs => .own qs :: List.replicate (N.length - 1) .any) GE (RKm K H a) (envM N.length qs ds) body (mb qs ds)) : CalG P w K mg base (k + 1) x (spM K fun qs ds => (mb qs ds).bind finM) := by
  refine calG_of F S hb (fun {vs H Q} ⟨a, us, xs, qs, ds, z, ps', ev, ha, rx, r, e, _⟩ => ?_) fun f cdv A outer s H vs Q room gd ⟨a, us, xs, qs, ds, z, ps', ev, ha, rx, r, e, kq⟩ => ?_
  · obtain ⟨o, e1, _⟩ := Option.bind_eq_some_iff.mp (show (mb qs ds).bind _ = some (z, ps') from e)
    rw [ev, List.length_cons, r.length, hl qs ds o e1]
  · subst ev
    obtain ⟨o, e1, e2⟩ := Option.bind_eq_some_iff.mp (show (mb qs ds).bind _ = some (z, ps') from e)
    have hd := hl qs ds o e1
    refine run f cdv A outer s H a qs ds hd room gd o e1 _ H _ (env_startM ha rx r (by rw [hd]; exact hN)) ⟨?_, fun b => (nomatch b), fun b => (nomatch b), ?_⟩
    · rintro n rfl σ' H' E _
      cases e2
      obtain ⟨ys, h1, h2⟩ := E.pot rfl
      exact kq _ _ ys E.but h1 h2 .non
    · rintro d rfl v H' ⟨q1, ⟨ys, q2, q3⟩, q4⟩
      cases e2
      exact kq v H' ys q1 q2 q3 q4
theorem calMF (F : ∃ (f : Addr) (fd : FuncData), FunD K x x params body scope [] [] f fd ∧ mg x = some (.ref f)) (S : FnScope N ps scope)
    (hb : ∀ (kV doc pm : Value) (an : Option Addr) (cdv ct : Value) (us : List Value), us.length = ps.length → bindArgs (PySem.W.fnOf x x params body scope .none kV doc pm an cdv ct) ⟨us, []⟩ = pure (ps.zip us)) (hN : ps.length ≤ N.length)
    (mb : List D → List D → Option (Fl (List D) Empty (List D × List D))) (hl : ∀ qs ds o, mb qs ds = some o → ds.length + 1 = ps.length)
    (run : ∀ (f : Addr) (cdv : Value) (A : Around) (outer : List Env) (s : Shared) (H : Hp) (a : Addr) (qs ds : List D), ds.length + 1 = ps.length → Room k (A.deeper (envOfC x scope s.heap.objs.size f cdv)) → A.guards = some [] →
      DB (BX P w K mg base N x scope f cdv A outer s H) ⟨H, [(0, a)]⟩ (fun qs => .own qs :: List.replicate (N.length - 1) .any) GE (RKmf K H a) (envM N.length qs ds) body (mb qs ds)) : CalG P w K mg base (k + 1) x (spMF K fun qs ds => (mb qs ds).bind finMF) := by
  refine calG_of F S hb (fun {vs H Q} ⟨a, us, xs, qs, ds, z, ps', ev, ha, rx, r, e, _⟩ => ?_) fun f cdv A outer s H vs Q room gd ⟨a, us, xs, qs, ds, z, ps', ev, ha, rx, r, e, kq⟩ => ?_
  · obtain ⟨o, e1, _⟩ := Option.bind_eq_some_iff.mp (show (mb qs ds).bind _ = some (z, ps') from e)
    rw [ev, List.length_cons, r.length, hl qs ds o e1]
  · subst ev
    obtain ⟨o, e1, e2⟩ := Option.bind_eq_some_iff.mp (show (mb qs ds).bind _ = some (z, ps') from e)
    have hd := hl qs ds o e1
    refine run f cdv A outer s H a qs ds hd room gd o e1 _ H _ (env_startM ha rx r (by rw [hd]; exact hN)) ⟨?_, fun b => (nomatch b), fun b => (nomatch b), ?_⟩
    · rintro n rfl σ' H' E _
      cases e2
    · rintro d rfl v H' ⟨q1, ⟨ys, q2, q3⟩, b, zs, rfl, q4, q5, q6⟩
      cases e2
      exact kq b H' ys zs q4 q1 q2 q3 q5 q6
end
end DL

set_option Elab.async false
set_option linter.all false
set_option maxRecDepth 100000
set_option maxHeartbeats 2000000
set_option autoImplicit false
namespace DL
open PySem PySem.Spec PyProof.Rows L2
/-! ### calls of defs -/
section
variable {X : Cx} {c : FC} {Γ : Env_} {k : Nat} {x : Str} {p pos : Pos} {e : Expr} {es : List Expr}
theorem de_call {g : List D → Option D} {m : Option (List D)} (F : CalG X.prog X.w X.K X.mg X.base k x (spP X.K g)) (room : Room k X.A) (gd : X.A.guards = some []) (ha : DA X c Γ (e :: es) m) (hg : Gl X x := by rfl) (hs : NoStar X (e :: es) := by exact ⟨rfl, rfl, rfl, rfl, trivial⟩) (hdb : (x == ("__debug__" : Str)) = false := by decide) (hpl : (backTo pos (starEach es X.env)).any (·.1) = false := by rfl) :
    DE X c Γ (.Call (.Name x p) (e :: es) [] pos) (m.bind g) := fun d hd σ H Q E kq => by
  obtain ⟨ds, e1, e2⟩ := Option.bind_eq_some_iff.mp hd
  exact sE_of (pe_callG F room gd hg (pa_s hs) hdb hs.1 hpl) (ha ds e1 σ H _ E fun vs H1 s1 r1 => ⟨ds, d, r1, e2, fun v H2 s2 r2 => kq v H2 (s1.trans s2) r2⟩)
theorem de_call0 {g : List D → Option D} (F : CalG X.prog X.w X.K X.mg X.base k x (spP X.K g)) (room : Room k X.A) (gd : X.A.guards = some []) (hg : Gl X x := by rfl) (hdb : (x == ("__debug__" : Str)) = false := by decide) : DE X c Γ (.Call (.Name x p) [] [] pos) (g []) := fun d hd σ H Q E kq =>
  sE_of (pe_callG0 F room gd hg hdb) ⟨[], d, .nil, hd, fun v H2 s2 r2 => kq v H2 s2 r2⟩
theorem df_call {g : List D → Option (List D)} {m : Option (List D)} (F : CalG X.prog X.w X.K X.mg X.base k x (spF X.K g)) (room : Room k X.A) (gd : X.A.guards = some []) (ha : DA X c Γ (e :: es) m) (hg : Gl X x := by rfl) (hs : NoStar X (e :: es) := by exact ⟨rfl, rfl, rfl, rfl, trivial⟩) (hdb : (x == ("__debug__" : Str)) = false := by decide) (hpl : (backTo pos (starEach es X.env)).any (·.1) = false := by rfl) :
    DF X c Γ (.Call (.Name x p) (e :: es) [] pos) (m.bind g) := fun d hd σ H Q E kq => by
  obtain ⟨ds, e1, e2⟩ := Option.bind_eq_some_iff.mp hd
  exact sE_of (pe_callG F room gd hg (pa_s hs) hdb hs.1 hpl) (ha ds e1 σ H _ E fun vs H1 s1 r1 => ⟨ds, d, r1, e2, fun a H2 xs hn s2 h2 r2 => kq a H2 xs (s1.free hn) (s1.trans s2) h2 r2⟩)
theorem df_call0 {g : List D → Option (List D)} (F : CalG X.prog X.w X.K X.mg X.base k x (spF X.K g)) (room : Room k X.A) (gd : X.A.guards = some []) (hg : Gl X x := by rfl) (hdb : (x == ("__debug__" : Str)) = false := by decide) : DF X c Γ (.Call (.Name x p) [] [] pos) (g []) := fun d hd σ H Q E kq =>
  sE_of (pe_callG0 F room gd hg hdb) ⟨[], d, .nil, hd, fun a H2 xs hn s2 h2 r2 => kq a H2 xs hn s2 h2 r2⟩
/-- f(list just made, ..), f may change the list -/
theorem de_callN {g : List D → List D → Option (D × List D)} {m : Option (List D)} {ms : Option (List D)} (F : CalG X.prog X.w X.K X.mg X.base k x (spM X.K g)) (room : Room k X.A) (gd : X.A.guards = some []) (he : DF X c Γ e m) (ha : DA X c Γ es ms) (hg : Gl X x := by rfl) (hs : NoStar X (e :: es) := by exact ⟨rfl, rfl, rfl, rfl, trivial⟩) (hdb : (x == ("__debug__" : Str)) = false := by decide) (hpl : (backTo pos (starEach es X.env)).any (·.1) = false := by rfl) :
    DE X c Γ (.Call (.Name x p) (e :: es) [] pos) (m.bind fun ps => ms.bind fun ds => (g ps ds).map (·.1)) := fun d hd σ H Q E kq => by
  obtain ⟨ps, e1, e2⟩ := Option.bind_eq_some_iff.mp hd
  obtain ⟨ds, e3, e4⟩ := Option.bind_eq_some_iff.mp e2
  obtain ⟨⟨z, ps'⟩, e5, rfl⟩ := Option.map_eq_some_iff.mp e4
  refine sE_of (pe_callG F room gd hg (pa_s hs) hdb hs.1 hpl) (he ps e1 σ H _ E fun a H1 xs hn s1 h1 r1 => ha ds e3 σ H1 _ (E.same s1) fun vs H2 s2 r2 => ⟨a, vs, xs, ps, ds, z, ps', rfl, s2 _ _ h1, r1.mono (.of_same s2), r2, e5, fun v H3 ys f1 f2 f3 f4 => kq v H3 (fun b o hb => f1 b o (s2 _ _ (s1 _ _ hb)) (ne_of_none hb hn)) f4⟩)
end
section
variable {X : Cx} {c : FC} {k : Nat} {x y : Str} {p pos py : Pos} {e : Expr} {es : List Expr}
theorem dx_call {T : Type} {G : T → Env_} {g : List D → Option D} {m : T → Option (List D × T)} (F : CalG X.prog X.w X.K X.mg X.base k x (spP X.K g)) (room : Room k X.A) (gd : X.A.guards = some []) (ha : DXA X c G (e :: es) m) (hg : Gl X x := by rfl) (hs : NoStar X (e :: es) := by exact ⟨rfl, rfl, rfl, rfl, trivial⟩) (hdb : (x == ("__debug__" : Str)) = false := by decide) (hpl : (backTo pos (starEach es X.env)).any (·.1) = false := by rfl) :
    DX X c G (.Call (.Name x p) (e :: es) [] pos) (appX g m) := fun t d t' hd σ H Q E kq => by
  obtain ⟨⟨ds, t1⟩, e1, e2⟩ := Option.bind_eq_some_iff.mp hd
  obtain ⟨z, e3, e4⟩ := Option.map_eq_some_iff.mp e2
  cases e4
  exact sE_of (pe_callG F room gd hg (pa_s hs) hdb hs.1 hpl) (ha t ds _ e1 σ H _ E fun vs H1 E1 s1 r1 => ⟨ds, _, r1, e3, fun v H2 s2 r2 => kq v H2 (E1.same s2) (s1.trans (.of_same E1 s2)) r2⟩)
theorem dxf_call {T : Type} {G : T → Env_} {g : List D → Option (List D)} {m : T → Option (List D × T)} (F : CalG X.prog X.w X.K X.mg X.base k x (spF X.K g)) (room : Room k X.A) (gd : X.A.guards = some []) (ha : DXA X c G (e :: es) m) (hg : Gl X x := by rfl) (hs : NoStar X (e :: es) := by exact ⟨rfl, rfl, rfl, rfl, trivial⟩) (hdb : (x == ("__debug__" : Str)) = false := by decide) (hpl : (backTo pos (starEach es X.env)).any (·.1) = false := by rfl) :
    DXF X c G (.Call (.Name x p) (e :: es) [] pos) (appX g m) := fun t d t' hd σ H Q E kq => by
  obtain ⟨⟨ds, t1⟩, e1, e2⟩ := Option.bind_eq_some_iff.mp hd
  obtain ⟨z, e3, e4⟩ := Option.map_eq_some_iff.mp e2
  cases e4
  exact sE_of (pe_callG F room gd hg (pa_s hs) hdb hs.1 hpl) (ha t ds _ e1 σ H _ E fun vs H1 E1 s1 r1 => ⟨ds, _, r1, e3, fun a H2 xs hn s2 h2 r2 => kq a H2 xs (s1.free E hn) (E1.same s2) (s1.trans (.of_same E1 s2)) h2 r2⟩)
/-- the list that slot i holds was changed by a callee -/
theorem env_called {G : List D → Env_} {i : Nat} {ps qs : List D} {σ : St} {H H' : Hp} {a : Addr} {ys : List V} {K : Fr_} (E : EnvOk K c σ H (G ps)) (h : (G ps)[i]? = some (.own ps)) (hP : (G ps).set i (.own qs) = G qs) (ea : σ[i]? = some (some (.ref a))) (f1 : ∀ b o, H b = some o → b ≠ a → H' b = some o) (f2 : H' a = some (.lst ys)) (f3 : RpA K H' ys qs) :
    EnvOk K c σ H' (G qs) ∧ Step (G ps) (G qs) σ H H' := by
  have E2 := E.write h ea f1 f2 f3
  rw [hP] at E2
  have own_iff : ∀ b, Owns (G qs) σ b → Owns (G ps) σ b := fun b ⟨j, q, e1, e2, e3⟩ => by
    rw [← hP] at e1
    by_cases ej : i = j
    · subst ej
      exact ⟨i, _, h, rfl, e3⟩
    · rw [List.getElem?_set_ne ej] at e1
      exact ⟨j, q, e1, e2, e3⟩
  refine ⟨E2, ⟨fun b o hb hn => f1 b o hb fun z => hn ⟨i, _, h, rfl, z ▸ ea⟩, own_iff, fun b hb => ?_⟩⟩
  by_cases eb : b = a
  · rw [eb, f2]
    intro z
    cases z
  · obtain ⟨xs, q⟩ := E.owned hb
    rw [f1 b _ q eb]
    intro z
    cases z
variable {G : List D → Env_}
theorem dx_callM {g : List D → List D → Option (D × List D)} {ms : List D → Option (List D × List D)} (i : Nat) (F : CalG X.prog X.w X.K X.mg X.base k x (spM X.K g)) (room : Room k X.A) (gd : X.A.guards = some []) (ha : DXA X c G es ms) (hG : ∀ ps, (G ps)[i]? = some (.own ps) := by intro _; rfl) (hP : ∀ ps qs, (G ps).set i (.own qs) = G qs := by intros; rfl)
    (hN : X.N[i]? = some y := by rfl) (hv : Vis X.env.scope y := by first | exact Or.inl rfl | exact Or.inr (Or.inl rfl) | exact Or.inr (Or.inr rfl)) (hg : Gl X x := by rfl) (hs : NoStar X (.Name y py :: es) := by exact ⟨rfl, rfl, rfl, rfl, trivial⟩) (hdb : (x == ("__debug__" : Str)) = false := by decide) (hpl : (backTo pos (starEach es X.env)).any (·.1) = false := by rfl)
    (hd : (y == ("__debug__" : Str)) = false := by decide) (hcd : (y == ("__classdict__" : Str)) = false := by decide) : DX X c G (.Call (.Name x p) (.Name y py :: es) [] pos) (fun ps => (ms ps).bind fun q => g q.2 q.1) := fun t d t' hd' σ H Q E kq => by
  obtain ⟨⟨ds, t1⟩, e1, e2⟩ := Option.bind_eq_some_iff.mp hd'
  refine sE_of (pe_callG F room gd hg (pa_cons (pe_var hN hv hd hcd) (pa_s hs.2) hs.1) hdb hs.1 hpl) ?_
  obtain ⟨a, xs, ea, _, _⟩ := E.ownAt (hG t)
  refine ⟨_, ea, ha t ds t1 e1 σ H _ E fun vs H1 E1 s1 r1 => ?_⟩
  obtain ⟨a', ys, ea', hl, ry⟩ := E1.ownAt (hG t1)
  rw [ea] at ea'
  cases ea'
  refine ⟨a, vs, ys, t1, ds, d, t', rfl, hl, ry, r1, e2, fun v H2 zs f1 f2 f3 f4 => ?_⟩
  obtain ⟨E2, s2⟩ := env_called E1 (hG t1) (hP t1 t') ea f1 f2 f3
  exact kq v H2 E2 (s1.trans s2) f4
theorem dxf_callM {g : List D → List D → Option (List D × List D)} {ms : List D → Option (List D × List D)} (i : Nat) (F : CalG X.prog X.w X.K X.mg X.base k x (spMF X.K g)) (room : Room k X.A) (gd : X.A.guards = some []) (ha : DXA X c G es ms) (hG : ∀ ps, (G ps)[i]? = some (.own ps) := by intro _; rfl) (hP : ∀ ps qs, (G ps).set i (.own qs) = G qs := by intros; rfl)
    (hN : X.N[i]? = some y := by rfl) (hv : Vis X.env.scope y := by first | exact Or.inl rfl | exact Or.inr (Or.inl rfl) | exact Or.inr (Or.inr rfl)) (hg : Gl X x := by rfl) (hs : NoStar X (.Name y py :: es) := by exact ⟨rfl, rfl, rfl, rfl, trivial⟩) (hdb : (x == ("__debug__" : Str)) = false := by decide) (hpl : (backTo pos (starEach es X.env)).any (·.1) = false := by rfl)
    (hd : (y == ("__debug__" : Str)) = false := by decide) (hcd : (y == ("__classdict__" : Str)) = false := by decide) : DXF X c G (.Call (.Name x p) (.Name y py :: es) [] pos) (fun ps => (ms ps).bind fun q => g q.2 q.1) := fun t d t' hd' σ H Q E kq => by
  obtain ⟨⟨ds, t1⟩, e1, e2⟩ := Option.bind_eq_some_iff.mp hd'
  refine sE_of (pe_callG F room gd hg (pa_cons (pe_var hN hv hd hcd) (pa_s hs.2) hs.1) hdb hs.1 hpl) ?_
  obtain ⟨a, xs, ea, _, _⟩ := E.ownAt (hG t)
  refine ⟨_, ea, ha t ds t1 e1 σ H _ E fun vs H1 E1 s1 r1 => ?_⟩
  obtain ⟨a', ys, ea', hl, ry⟩ := E1.ownAt (hG t1)
  rw [ea] at ea'
  cases ea'
  refine ⟨a, vs, ys, t1, ds, d, t', rfl, hl, ry, r1, e2, fun b H2 us zs hb f1 f2 f3 f4 f5 => ?_⟩
  obtain ⟨E2, s2⟩ := env_called E1 (hG t1) (hP t1 t') ea f1 f2 f3
  exact kq b H2 zs (s1.free E hb) E2 (s1.trans s2) f4 f5
end
/-! ### isinstance, repr, list(range(..)), sorted -/
def tyN : D → String
  | .none => "NoneType"
  | .bool _ => "bool"
  | .int _ => "int"
  | .str _ => "str"
  | .list _ => "list"
  | .tuple _ => "tuple"
  | .dict _ => "dict"
def dIsi (T : String) (d : D) : Option D := match T with
  | "int" => some (.bool (match d with | .int _ => true | .bool _ => true | _ => false))
  | "bool" => some (.bool (match d with | .bool _ => true | _ => false))
  | "str" => some (.bool (match d with | .str _ => true | _ => false))
  | "tuple" => some (.bool (match d with | .tuple _ => true | _ => false))
  | "list" => some (.bool (match d with | .list _ => true | _ => false))
  | _ => none
theorem dIsi_kit {T : String} {d z : D} (h : dIsi T d = some z) : ∃ b, z = .bool b ∧ kitB (tyN d) T = some b := by
  unfold dIsi at h
  split at h
  · refine ⟨_, (Option.some.inj h).symm, ?_⟩
    cases d <;> (dsimp only [tyN]; decide +kernel)
  · refine ⟨_, (Option.some.inj h).symm, ?_⟩
    cases d <;> (dsimp only [tyN]; decide +kernel)
  · refine ⟨_, (Option.some.inj h).symm, ?_⟩
    cases d <;> (dsimp only [tyN]; decide +kernel)
  · refine ⟨_, (Option.some.inj h).symm, ?_⟩
    cases d <;> (dsimp only [tyN]; decide +kernel)
  · refine ⟨_, (Option.some.inj h).symm, ?_⟩
    cases d <;> (dsimp only [tyN]; decide +kernel)
  · cases h
theorem tyX_of {K : Fr_} {H : Hp} {v : V} {d : D} (r : RpW K H v d) : TyX K H v (.type (tyN d)) := by
  have seqL : ∀ {a : Addr} {xs : List V}, SqL K H a xs → TyX K H (.ref a) (.type "list") := fun {a xs} h => by
    rcases h with (h | ⟨o, h⟩) | ⟨o, its, n, h1, h2, _⟩
    · exact .base (.lst h)
    · exact .base (.frz h)
    · exact .kList h1 h2
  have seqT : ∀ {a : Addr} {xs : List V}, SqT K H a xs → TyX K H (.ref a) (.type "tuple") := fun {a xs} h => by
    rcases h with (h | ⟨o, h⟩) | ⟨o, its, n, h1, h2, _⟩
    · exact .base (.tup h)
    · exact .fTuple h
    · exact .kTuple h1 h2
  cases r with
  | st r =>
    cases r with
    | non => exact .base .non
    | bl b => exact .base (.bl b)
    | int i => exact .base (.int i)
    | str x => exact .base (.str x)
    | lst h _ => exact seqL h.sq
    | tup h _ => exact seqT h
  | ow h _ => exact .base (.lst h)
section
variable {X : Cx} {c : FC} {Γ : Env_}
theorem de_isi {T : String} {x : Str} {e : Expr} {m : Option D} {p px pos : Pos} (hm : X.mg "isinstance" = none) (hm2 : X.mg x = none) (he : DW X c Γ e m) (hv : bootBuiltins x = some (.type T) := by decide +kernel) (hg : Gl X "isinstance" := by rfl) (hg2 : Gl X x := by rfl) (hn : x ≠ "__name__" := by decide) (hdb : (x == ("__debug__" : Str)) = false := by decide)
    (hs : NoStar X [e, .Name x px] := by exact ⟨rfl, rfl, trivial⟩) (hpl : (backTo pos (starEach [Expr.Name x px] X.env)).any (·.1) = false := by rfl) : DE X c Γ (.Call (.Name "isinstance" p) [e, .Name x px] [] pos) (m.bind (dIsi T)) := fun d hd σ H Q E k => by
  obtain ⟨a, e1, e2⟩ := Option.bind_eq_some_iff.mp hd
  obtain ⟨b, rfl, hk⟩ := dIsi_kit e2
  refine sE_of (pe_callB call_isi hg hm boot_isinstance (pa_cons (pe_s e) (pa_cons (pe_bltn (v := V.ty T) hg2 hm2 hv rfl hn hdb) pa_nil hs.2.1) hs.1) (by decide) (by decide) hs.1 hpl) ?_
  exact he a e1 σ H _ E fun v H1 s1 r1 => ⟨v, .ty T, _, _, b, rfl, .ty T, tyX_of r1, kit_ty hk, k _ H1 s1 (.bl b)⟩
theorem dx_isi {S : Type} {G : S → Env_} {T : String} {x : Str} {e : Expr} {m : S → Option (D × S)} {p px pos : Pos} (hm : X.mg "isinstance" = none) (hm2 : X.mg x = none) (he : DX X c G e m) (hv : bootBuiltins x = some (.type T) := by decide +kernel) (hg : Gl X "isinstance" := by rfl) (hg2 : Gl X x := by rfl) (hn : x ≠ "__name__" := by decide) (hdb : (x == ("__debug__" : Str)) = false := by decide)
    (hs : NoStar X [e, .Name x px] := by exact ⟨rfl, rfl, trivial⟩) (hpl : (backTo pos (starEach [Expr.Name x px] X.env)).any (·.1) = false := by rfl) : DX X c G (.Call (.Name "isinstance" p) [e, .Name x px] [] pos) (bindX m (dIsi T)) := fun t d t' hd σ H Q E k => by
  obtain ⟨a, e1, e2⟩ := bindX_eq hd
  obtain ⟨b, rfl, hk⟩ := dIsi_kit e2
  refine sE_of (pe_callB call_isi hg hm boot_isinstance (pa_cons (pe_s e) (pa_cons (pe_bltn (v := V.ty T) hg2 hm2 hv rfl hn hdb) pa_nil hs.2.1) hs.1) (by decide) (by decide) hs.1 hpl) ?_
  exact he t a t' e1 σ H _ E fun v H1 E1 s1 r1 => ⟨v, .ty T, _, _, b, rfl, .ty T, tyX_of (.st r1), kit_ty hk, k _ H1 E1 s1 (.bl b)⟩
theorem cd_repr (gd : X.A.guards = some []) (hu : X.A.units + 100 < cLine) : CallD X (.builtin "repr") dRepr := by
  intro pins s σ H vs us Q I rs ⟨ds, z, h, e, k⟩
  unfold dRepr at e
  split at e
  · rename_i d
    split at e
    · rename_i hb
      cases e
      obtain ⟨b1, b2⟩ := Bool.and_eq_true_iff.mp hb
      obtain ⟨b3, b4⟩ := Bool.and_eq_true_iff.mp b2
      obtain ⟨b5, b6⟩ := Bool.and_eq_true_iff.mp b4
      have hlen : d.shown.length ≤ 1000000 := of_decide_eq_true b3
      have hnd : d.hasDict = false := by simpa using b5
      have hdp : d.depth ≤ 64 := of_decide_eq_true b6
      have hsz : d.shown.length ≤ sizeLine := Nat.le_trans hlen (by decide)
      obtain ⟨v, rfl, h1⟩ := h.one
      obtain ⟨u, rfl, ru⟩ := vals1 rs
      obtain ⟨as, rr⟩ := Dp.reads I d v u h1.dp ru
      have fin : ∀ (a : Addr), u = .ref a → wpAny (model X.prog X.w) X.A (call (.builtin "repr") [u]) (EP X pins σ Q) X.xe s := fun a ea => by
        subst ea
        exact repr_of_reads' rr b1 (PyData.noDict_hsm hnd) gd (by omega) (fun _ _ e => e) (fun h' u' tk hk => ⟨.str d.shown, H, I.kept (t' := tk) hk, ⟨u', rfl⟩, k _ H (Same.refl H) (.str _)⟩) hsz
      cases h1 with
      | st h1 =>
        cases h1 with
        | lst _ _ => exact fin _ ru
        | tup _ _ => exact fin _ ru
        | non =>
          cases (show u = Value.none from ru)
          exact PySem.P.repr_of_none ⟨.str _, H, I.tok _, ⟨_, rfl⟩, k _ H (Same.refl H) (.str _)⟩
        | bl b =>
          cases (show u = Value.bool b from ru)
          refine PySem.P.repr_of_bool ⟨.str _, H, I.tok _, ⟨_, rfl⟩, ?_⟩
          cases b
          · exact k _ H (Same.refl H) (.str _)
          · exact k _ H (Same.refl H) (.str _)
        | int i =>
          obtain ⟨t, q⟩ := (show ∃ t, u = Value.int i t from ru)
          cases q
          have hi : i.natAbs.log2 < 1920 := by
            have b1' : (PyData.int i).showable = true := b1
            simpa [PyData.showable] using b1'
          exact PySem.P.repr_of_int hi ⟨.str _, H, I.tok _, ⟨_, rfl⟩, k _ H (Same.refl H) (.str _)⟩
        | str y =>
          obtain ⟨t, q⟩ := (show ∃ t, u = Value.str y t from ru)
          cases q
          exact PySem.P.repr_of_str ⟨.str _, H, I.tok _, ⟨_, rfl⟩, k _ H (Same.refl H) (.str _)⟩ hsz
      | ow _ _ => exact fin _ ru
    · cases e
  · cases e
theorem rpa_each {pins : List (Addr × Obj)} {σ : St} {H : Hp} {s : Shared} (I : Inv X pins σ H s) : ∀ {xs : List V} {its : List Value} {es : List D}, RpA X.K H xs es → Vals xs its → PySem.W.EachIs (fun u d => (∃ w, RelV w u ∧ Rp X.K H w d) ∧ ∃ as, Reads s.heap u d as) its es
  | _, _, _, .nil, .nil => .nil
  | _, _, _, .cons h r, .cons a b => .cons ⟨⟨_, a, h⟩, Dp.reads I _ _ _ h.dp a⟩ (rpa_each I r b)
theorem cf_sorted (hu : X.A.units + 100 < cLine) : CallF X (.builtin "sorted") dSorted := by
  intro pins s σ H vs us Q I rs ⟨ds, z, h, e, k⟩
  unfold dSorted at e
  split at e
  · rename_i ds'
    split at e
    · rename_i hb
      cases e
      obtain ⟨b1, b2⟩ := Bool.and_eq_true_iff.mp hb
      obtain ⟨b3, b4⟩ := Bool.and_eq_true_iff.mp b2
      have hlen : ds'.length ≤ 100000 := of_decide_eq_true b1
      obtain ⟨a1, a2⟩ := allAlike_iff b3
      have srt : PySem.W.Sortable ds' := by
        rcases Bool.or_eq_true_iff.mp b4 with q | q
        · refine .inl fun d hd => ?_
          have z := List.all_eq_true.mp q d hd
          split at z
          · exact ⟨_, _, rfl⟩
          · cases z
        · refine .inr fun d hd => ⟨(a1 d hd).1, fun xs ex => ?_⟩
          have z := List.all_eq_true.mp q d hd
          rw [ex] at z
          cases z
      obtain ⟨v, rfl, h1⟩ := h.one
      obtain ⟨p, xs, rfl, hp, r⟩ := h1.list
      obtain ⟨u, rfl, ru⟩ := vals1 rs
      cases ru
      obtain ⟨its, rv, pl, hz⟩ := I.list hp
      have each := fun {xs its es} r rv => rpa_each (xs := xs) (its := its) (es := es) I r rv
      have ea := each r rv
      have back : ∀ {out : List Value} {es : List D}, PySem.W.EachIs (fun u d => ∃ w, RelV w u ∧ Rp X.K H w d) out es → ∃ ws : List V, Vals ws out ∧ RpA X.K H ws es := fun {out es} q => by
        induction q with
        | nil => exact ⟨[], .nil, .nil⟩
        | cons h _ ih =>
          obtain ⟨w, h1, h2⟩ := h
          obtain ⟨ws, h3, h4⟩ := ih
          exact ⟨w :: ws, .cons h1 h3, .cons h2 h4⟩
      refine PySem.W.sorted_data (R := fun u d => ∃ w, RelV w u ∧ Rp X.K H w d) (enc := fun d => d) pl.isList (ea.mono fun _ _ q => q.1) (ea.mono fun _ _ q => q.2) (by rw [List.map_id']; exact a2) (by rw [List.map_id']; exact srt) (Nat.le_trans hlen (by decide)) (fun b hb => by have := (a1 b hb).2; omega) fun out ho eo => ?_
      obtain ⟨ws, w1, w2⟩ := back eo
      obtain ⟨ep, he'⟩ := PyProof.Rows.sortedAll_at s.heap its out.toArray
      have hn : H (s.heap.objs.size + 1) = none := I.hok.fresh (Nat.le_succ _)
      have I1 : Inv X pins σ (upd H (s.heap.objs.size + 1) (.lst ws)) { s with heap := sortedAll s.heap its out.toArray } := I.laid (t' := s.toks) (fun _ _ => PyProof.Rows.sortedAll_old) (Nat.le_succ _) ⟨by rw [w1.length, ho]; exact Nat.le_trans hlen (by decide), out, ep, w1, he'⟩
      exact ⟨.ref _, _, I1, rfl, k _ _ ws hn (Same.new hn) upd_same (w2.mono (.of_same (Same.new hn)))⟩
    · cases e
  · cases e
/-- list(range(n)) -/
noncomputable def dLR1 : D → Option (List D)
  | .int b => if rOk b && cl (b ≤ 100000) then some (rangeL 0 b) else none
  | _ => none
noncomputable def dLR2 : D → D → Option (List D)
  | .int a, .int b => if rOk a && (rOk b && cl (b - a ≤ 100000)) then some (rangeL a b) else none
  | _, _ => none
theorem rgV_rp {K : Fr_} {H : Hp} (a b : Int) : RpA K H (rgV a b) (rangeL a b) := by
  unfold rgV rangeL
  generalize (List.range (b - a).toNat) = l
  induction l with
  | nil => exact .nil
  | cons n r ih => exact .cons (.int _) ih
theorem df_lr1 {e : Expr} {m : Option D} {p p2 pos pos2 : Pos} (hc : X.calm = true) (hl : X.mg "list" = none) (hm : X.mg "range" = none) (he : DE X c Γ e m) (hgl : Gl X "list" := by rfl) (hg : Gl X "range" := by rfl) (na : starEach [e] X.env = (false, eval e X.env) :: starEach [] X.env := by rfl)
    (nb : starEach [Expr.Call (.Name "range" p2) [e] [] pos2] X.env = (false, eval (.Call (.Name "range" p2) [e] [] pos2) X.env) :: starEach [] X.env := by rfl) : DF X c Γ (.Call (.Name "list" p) [.Call (.Name "range" p2) [e] [] pos2] [] pos) (m.bind dLR1) := fun ds hd σ H Q E k => by
  obtain ⟨d, e1, e2⟩ := Option.bind_eq_some_iff.mp hd
  unfold dLR1 at e2
  split at e2
  · split at e2
    · rename_i hb
      cases e2
      obtain ⟨h1, h2⟩ := Bool.and_eq_true_iff.mp hb
      obtain ⟨h3, h4⟩ := rOk_iff h1
      have h5 := cl_iff.mp h2
      refine sE_of (pe_listRg hc hgl hl (prg_1 hg hm (pe_s e) na) nb) (he _ e1 σ H _ E fun v H1 s1 r1 => ⟨_, RpW.int (.st r1), ⟨by omega, by omega, h3, h4, by omega⟩, fun q hq => ?_⟩)
      exact k q _ _ (s1.free hq) (s1.trans (Same.new hq)) upd_same (rgV_rp _ _)
    · cases e2
  · cases e2
theorem df_lr2 {e e' : Expr} {m m' : Option D} {p p2 pos pos2 : Pos} (hc : X.calm = true) (hl : X.mg "list" = none) (hm : X.mg "range" = none) (he : DE X c Γ e m) (he' : DE X c Γ e' m') (hgl : Gl X "list" := by rfl) (hg : Gl X "range" := by rfl) (na : starEach [e, e'] X.env = (false, eval e X.env) :: starEach [e'] X.env := by rfl) (na' : starEach [e'] X.env = (false, eval e' X.env) :: starEach [] X.env := by rfl) (hpl : (backTo pos2 (starEach [e'] X.env)).any (·.1) = false := by rfl)
    (nb : starEach [Expr.Call (.Name "range" p2) [e, e'] [] pos2] X.env = (false, eval (.Call (.Name "range" p2) [e, e'] [] pos2) X.env) :: starEach [] X.env := by rfl) : DF X c Γ (.Call (.Name "list" p) [.Call (.Name "range" p2) [e, e'] [] pos2] [] pos) (m.bind fun a => m'.bind fun b => dLR2 a b) := fun ds hd σ H Q E k => by
  obtain ⟨d, e1, e2⟩ := Option.bind_eq_some_iff.mp hd
  obtain ⟨d', e3, e4⟩ := Option.bind_eq_some_iff.mp e2
  unfold dLR2 at e4
  split at e4
  · split at e4
    · rename_i hb
      cases e4
      obtain ⟨h1, h2⟩ := Bool.and_eq_true_iff.mp hb
      obtain ⟨h6, h7⟩ := Bool.and_eq_true_iff.mp h2
      obtain ⟨h3, h4⟩ := rOk_iff h1
      obtain ⟨h8, h9⟩ := rOk_iff h6
      have h5 := cl_iff.mp h7
      refine sE_of (pe_listRg hc hgl hl (prg_2 hg hm (pe_s e) (pe_s e') na na' hpl) nb) (he _ e1 σ H _ E fun v H1 s1 r1 => he' _ e3 σ H1 _ (E.same s1) fun v2 H2 s2 r2 => ⟨_, _, RpW.int (.st r1), RpW.int (.st r2), ⟨h3, h4, h8, h9, by omega⟩, fun q hq => ?_⟩)
      exact k q _ _ ((s1.trans s2).free hq) ((s1.trans s2).trans (Same.new hq)) upd_same (rgV_rp _ _)
    · cases e4
  · cases e4
end
end DL

set_option Elab.async false
set_option linter.all false
set_option maxRecDepth 100000
set_option maxHeartbeats 2000000
set_option autoImplicit false
namespace DL
open PySem PySem.Spec PyProof.Rows L2
def castFl {N B R : Type} : Fl Empty B R → Fl N B R
  | .nx e => nomatch e
  | .bk b => .bk b
  | .ct b => .ct b
  | .rt r => .rt r

section
variable {X : Cx} {c : FC} {N B R : Type} {GN : N → Env_} {GB : B → Env_} {RK : R → V → Hp → Prop} {Γ : Env_} {rest : List Stmt}
theorem cast_fin {H : Hp} {D : Ends} {o1 : Fl Empty B R} {t : TS} (f : Fin_ X.K c GN GB RK H (castFl o1) D) (n : St → Hp → Prop) : Fin_ X.K c GE GB RK H o1 { D with nx := n } := by
  cases o1 with
  | nx n => cases n
  | bk b => exact ⟨(fun n => nomatch n), (fun b' e => by cases e; exact f.bk b rfl), (fun b e => nomatch e), (fun b e => nomatch e)⟩
  | ct b => exact ⟨(fun n => nomatch n), (fun b e => nomatch e), (fun b' e => by cases e; exact f.ct b rfl), (fun b e => nomatch e)⟩
  | rt r => exact ⟨(fun n => nomatch n), (fun b e => nomatch e), (fun b e => nomatch e), (fun b' e => by cases e; exact f.rt r rfl)⟩
theorem db_cast {sts : List Stmt} {m : Option (Fl Empty B R)} (h : DB X c GE GB RK Γ sts m) : DB X c GN GB RK Γ sts (m.map castFl) := fun o e σ H D E f => by
  obtain ⟨o1, e1, rfl⟩ := Option.map_eq_some_iff.mp e
  exact h o1 e1 σ H D E (cast_fin (t := fun _ _ _ => True) f D.nx)
/-- the first branch does not go on -/
theorem db_ifr {t : Expr} {a : List Stmt} {mt : Option Bool} {ma : Option (Fl Empty B R)} {mr : Option (Fl N B R)} {pos : Pos} (ht : DT X c Γ t mt) (ha : DB X c GE GB RK Γ a ma) (hr : DB X c GN GB RK Γ rest mr) :
    DB X c GN GB RK Γ (.If t a [] pos :: rest) (iteO mt (ma.map castFl) mr) := fun o h σ H D E f => by
  obtain ⟨x, e3, e4⟩ := Option.bind_eq_some_iff.mp h
  refine sSs_cons (ps_if (pt_s t) (pss_s a) pss_nil) (ht x e3 σ H _ E fun H1 s1 => ?_)
  cases x with
  | true =>
    obtain ⟨o1, e5, rfl⟩ := Option.map_eq_some_iff.mp e4
    exact iteT (ha o1 e5 σ H1 _ (E.same s1) (cast_fin (t := fun _ _ _ => True) (f.mono (.of_same s1)) _))
  | false => exact iteF (hr o e4 σ H1 D (E.same s1) (f.mono (.of_same s1)))
/-- neither branch goes on -/
theorem db_ife {t : Expr} {a b : List Stmt} {mt : Option Bool} {ma mb : Option (Fl Empty B R)} {pos : Pos} (ht : DT X c Γ t mt) (ha : DB X c GE GB RK Γ a ma) (hb : DB X c GE GB RK Γ b mb) :
    DB X c GN GB RK Γ (.If t a b pos :: rest) ((iteO mt ma mb).map castFl) := fun o h σ H D E f => by
  obtain ⟨o1, e1, rfl⟩ := Option.map_eq_some_iff.mp h
  obtain ⟨x, e3, e4⟩ := Option.bind_eq_some_iff.mp e1
  refine sSs_cons (ps_if (pt_s t) (pss_s a) (pss_s b)) (ht x e3 σ H _ E fun H1 s1 => ?_)
  have f' := cast_fin (t := fun _ _ _ => True) (f.mono (.of_same s1)) (sSs X rest D)
  cases x with
  | true => exact iteT (ha o1 e4 σ H1 _ (E.same s1) f')
  | false => exact iteF (hb o1 e4 σ H1 _ (E.same s1) f')
variable {T : Type} {G : T → Env_}
theorem dbx_ifr {te : Expr} {a : List Stmt} {mt : T → Option (Bool × T)} {ma : Bool × T → Option (Fl Empty B R)} {mr : Bool × T → Option (Fl N B R)} {pos : Pos} {t : T} (ht : DXT X c G te mt) (ha : ∀ q : Bool × T, DB X c GE GB RK (G q.2) a (ma q)) (hr : ∀ q : Bool × T, DB X c GN GB RK (G q.2) rest (mr q)) :
    DB X c GN GB RK (G t) (.If te a [] pos :: rest) ((mt t).bind fun q => if q.1 then (ma q).map castFl else mr q) := fun o h σ H D E f => by
  obtain ⟨⟨x, t'⟩, e3, e4⟩ := Option.bind_eq_some_iff.mp h
  refine sSs_cons (ps_if (pt_s te) (pss_s a) pss_nil) (ht t x t' e3 σ H _ E fun H1 E1 s1 => ?_)
  cases x with
  | true =>
    obtain ⟨o1, e5, rfl⟩ := Option.map_eq_some_iff.mp e4
    exact iteT (ha (true, t') o1 e5 σ H1 _ E1 (cast_fin (t := fun _ _ _ => True) (f.mono (s1.mono E)) _))
  | false => exact iteF (hr (false, t') o e4 σ H1 D E1 (f.mono (s1.mono E)))
theorem dbx_ife {te : Expr} {a b : List Stmt} {mt : T → Option (Bool × T)} {ma mb : Bool × T → Option (Fl Empty B R)} {pos : Pos} {t : T} (ht : DXT X c G te mt) (ha : ∀ q : Bool × T, DB X c GE GB RK (G q.2) a (ma q)) (hb : ∀ q : Bool × T, DB X c GE GB RK (G q.2) b (mb q)) :
    DB X c GN GB RK (G t) (.If te a b pos :: rest) ((mt t).bind fun q => (if q.1 then ma q else mb q).map castFl) := fun o h σ H D E f => by
  obtain ⟨⟨x, t'⟩, e3, e4⟩ := Option.bind_eq_some_iff.mp h
  obtain ⟨o1, e5, rfl⟩ := Option.map_eq_some_iff.mp e4
  refine sSs_cons (ps_if (pt_s te) (pss_s a) (pss_s b)) (ht t x t' e3 σ H _ E fun H1 E1 s1 => ?_)
  have f' := cast_fin (t := fun _ _ _ => True) (f.mono (s1.mono E)) (sSs X rest D)
  cases x with
  | true => exact iteT (ha (true, t') o1 e5 σ H1 _ E1 f')
  | false => exact iteF (hb (false, t') o1 e5 σ H1 _ E1 f')
end
theorem u64 {k : Nat} {A : Around} (r : Room k A) : A.units + 64 < cLine := by have := r.un; omega
theorem u65 {k : Nat} {A : Around} (r : Room k A) : A.units + 65 < cLine := by have := r.un; omega
theorem u100 {k : Nat} {A : Around} (r : Room k A) : A.units + 100 < cLine := by have := r.un; omega
/-! slices -/
def dSlL (lo hi : Option Int) : D → Option (List D)
  | .list ds => some (cutD ds lo hi)
  | _ => none
def dSl (lo hi : Option Int) : D → Option D
  | .tuple ds => some (.tuple (cutD ds lo hi))
  | .list ds => some (.list (cutD ds lo hi))
  | _ => none
def slF (m : Option D) (lo hi : Option (Option Int)) : Option (List D) := m.bind fun x => lo.bind fun l => hi.bind fun h => dSlL l h x
section
variable {X : Cx} {c : FC} {Γ : Env_}
theorem df_sl {a : Expr} {lo hi : Option Expr} {ma : Option D} {ml mh : Option (Option Int)} {pos p2 : Pos} (ha : DW X c Γ a ma) (hl : DP X c Γ lo ml) (hh : DP X c Γ hi mh) : DF X c Γ (.Subscript a (.Slice lo hi none p2) pos) (slF ma ml mh) := fun d hd σ H Q E k => by
  refine df_slL ha hl hh d ?_ σ H Q E k
  obtain ⟨x, e1, e2⟩ := Option.bind_eq_some_iff.mp hd
  obtain ⟨l, e3, e4⟩ := Option.bind_eq_some_iff.mp e2
  obtain ⟨h, e5, e6⟩ := Option.bind_eq_some_iff.mp e4
  rw [e1, e3, e5]
  cases x <;> first | exact e6 | cases e6
theorem de_sl {a : Expr} {lo hi : Option Expr} {ma : Option D} {ml mh : Option (Option Int)} {pos p2 : Pos} (ha : DE X c Γ a ma) (hl : DP X c Γ lo ml) (hh : DP X c Γ hi mh) : DE X c Γ (.Subscript a (.Slice lo hi none p2) pos) (slO dSl ma ml mh) := fun d hd σ H Q E k => by
  obtain ⟨x, e1, e2⟩ := Option.bind_eq_some_iff.mp hd
  obtain ⟨l, e3, e4⟩ := Option.bind_eq_some_iff.mp e2
  obtain ⟨h, e5, e6⟩ := Option.bind_eq_some_iff.mp e4
  cases x with
  | tuple ds => exact de_slT ha hl hh d (by unfold slO; rw [e1, e3, e5]; exact e6) σ H Q E k
  | list ds => exact DF.e (df_sl ha.w hl hh) d (by unfold slF; rw [e1, e3, e5]; exact e6) σ H Q E k
  | _ => cases e6
variable {T : Type} {G : T → Env_}
inductive DXP (X : Cx) (c : FC) {T : Type} (G : T → Env_) : Option Expr → (T → Option (Option Int × T)) → Prop
  | no : DXP X c G none (fun t => some (none, t))
  | yes {e : Expr} {m : T → Option (D × T)} (h : DX X c G e m) : DXP X c G (some e) (bindX m fun d => (isI d).map some)
theorem DXP.run {e : Option Expr} {m : T → Option (Option Int × T)} (h : DXP X c G e m) {t t' : T} {o : Option Int} (ho : m t = some (o, t')) {σ : St} {H : Hp} {Q : Option Int → Hp → Prop} (E : EnvOk X.K c σ H (G t)) (k : ∀ H', EnvOk X.K c σ H' (G t') → Step (G t) (G t') σ H H' → Q o H') : sO X e σ H Q := by
  cases h with
  | no =>
    cases ho
    exact k H E (.refl E)
  | yes h =>
    obtain ⟨d, e1, e2⟩ := bindX_eq ho
    obtain ⟨i, e3, rfl⟩ := Option.map_eq_some_iff.mp e2
    have e4 := isI_eq e3
    subst e4
    exact h t _ t' e1 σ H _ E fun v H' E' s r => ⟨i, RpW.int (.st r), k H' E' s⟩
def slX (g : Option Int → Option Int → D → Option D) (a : T → Option (D × T)) (lo hi : T → Option (Option Int × T)) : T → Option (D × T) := fun t => (a t).bind fun p => (lo p.2).bind fun l => (hi l.2).bind fun h => (g l.1 h.1 p.1).map fun z => (z, h.2)
theorem dx_slT {a : Expr} {lo hi : Option Expr} {ma : T → Option (D × T)} {ml mh : T → Option (Option Int × T)} {pos p2 : Pos} (ha : DX X c G a ma) (hl : DXP X c G lo ml) (hh : DXP X c G hi mh) : DX X c G (.Subscript a (.Slice lo hi none p2) pos) (slX dSlT ma ml mh) := fun t d t' hd σ H Q E k => by
  obtain ⟨⟨x, t1⟩, e1, e2⟩ := Option.bind_eq_some_iff.mp hd
  obtain ⟨⟨l, t2⟩, e3, e4⟩ := Option.bind_eq_some_iff.mp e2
  obtain ⟨⟨h, t3⟩, e5, e6⟩ := Option.bind_eq_some_iff.mp e4
  obtain ⟨z, e7, e8⟩ := Option.map_eq_some_iff.mp e6
  cases e8
  replace e7 : dSlT l h x = some d := e7
  unfold dSlT at e7
  split at e7
  · cases e7
    refine sE_of (pe_slice sl_tupA (pe_s a) (po_s lo) (po_s hi)) ?_
    refine ha t _ t1 e1 σ H _ E fun v H1 E1 s1 r1 => hl.run e3 E1 fun H2 E2 s2 => hh.run e5 E2 fun H3 E3 s3 => ?_
    obtain ⟨b, xs, rfl, hq, r⟩ := RpW.tuple (.st r1)
    have m23 : Mono H1 H3 := (s2.mono E1).trans (s3.mono E2)
    have r' := r.mono m23
    have st := (s1.trans s2).trans s3
    refine ⟨b, xs, rfl, m23.sqT hq, fun hw => ?_, fun hw p hp => ?_⟩
    · rw [r.length] at hw
      exact k _ H3 E3 st (by
        rw [cutD_whole hw]
        exact .tup (m23.sqT hq) r')
    · exact k _ _ (E3.same (Same.new hp)) (st.trans (.of_same E3 (Same.new hp))) (.tup (SqT.of upd_same) ((r'.cut l h).mono (.of_same (Same.new hp))))
  · cases e7
end
/-! a + b -/
theorem op_catL {X : Cx} : OpR X (binaryOp .Add) (fun x y H Q => ∃ l b xs zs, x = .ref l ∧ y = .ref b ∧ SqL X.K H l xs ∧ SqL X.K H b zs ∧ xs.length + zs.length ≤ sizeLine ∧ ∀ p, H p = none → Q (.ref p) (upd H p (.lst (xs ++ zs)))) := by
  intro pins s σ H x y v u Q I rx ry h
  obtain ⟨l, b, xs, zs, rfl, rfl, h1, h2, hz, q⟩ := h
  cases rx
  cases ry
  obtain ⟨its, rv, p, _⟩ := I.list h1
  obtain ⟨its2, rv2, p2, _⟩ := I.list h2
  obtain ⟨⟨c1, d1, t1, s1⟩, e1, ec, n, ed⟩ := id p.isList
  obtain ⟨⟨c2, d2, t2, s2⟩, e2, ec2, n2, ed2⟩ := id p2.isList
  simp only at ec ed ec2 ed2
  subst ec ed ec2 ed2
  have ea : its.toArray ++ its2.toArray = (its ++ its2).toArray := by simp
  refine concat_meets ⟨_, e1, rfl⟩ ⟨_, e2, rfl⟩ noFill_list_add seq_list_add PySem.F.slot_list_add PySem.F.entry_list_add (PySem.F.args_list_add_2 _ _) (list_addW l b its.toArray its2.toArray n n2 d1 d2 s1 s2 (by rw [List.size_toArray, List.size_toArray, ← rv.length, ← rv2.length]; exact hz)) ⟨e1, e2, ?_⟩
  rw [ea]
  exact ⟨.ref _, _, I.lnew (t' := s.toks) (rv.append rv2) (by rw [List.length_append]; exact hz), rfl, q _ I.fresh⟩
def dPlusL : D → D → Option (List D)
  | .list a, .list b => if a.length + b.length ≤ 100000 then some (a ++ b) else none
  | _, _ => none
def dPlus : D → D → Option D
  | .list a, .list b => if a.length + b.length ≤ 100000 then some (.list (a ++ b)) else none
  | x, y => dAdd x y
def plusF (a b : Option D) : Option (List D) := a.bind fun x => b.bind fun y => dPlusL x y
section
variable {X : Cx} {c : FC} {Γ : Env_}
theorem df_plus {a b : Expr} {ma mb : Option D} {pos : Pos} (ha : DW X c Γ a ma) (hb : DW X c Γ b mb) : DF X c Γ (.BinOp a .Add b pos) (plusF ma mb) := fun d hd σ H Q E k => by
  obtain ⟨x, e1, e2⟩ := Option.bind_eq_some_iff.mp hd
  obtain ⟨y, e3, e4⟩ := Option.bind_eq_some_iff.mp e2
  unfold dPlusL at e4
  split at e4
  · split at e4
    · rename_i hl
      cases e4
      refine sE_of (pe_op op_catL (pe_s a) (pe_s b)) (ha _ e1 σ H _ E fun v H1 s1 r1 => hb _ e3 σ H1 _ (E.same s1) fun u H2 s2 r2 => ?_)
      obtain ⟨p, xs, rfl, hp, q1⟩ := (r1.same s2).list
      obtain ⟨q, ys, rfl, hq, q2⟩ := r2.list
      refine ⟨p, q, xs, ys, rfl, rfl, hp, hq, by rw [q1.length, q2.length]; exact Nat.le_trans hl (by decide), fun z hz => ?_⟩
      exact k z _ _ ((s1.trans s2).free hz) ((s1.trans s2).trans (Same.new hz)) upd_same ((q1.append q2).mono (.of_same (Same.new hz)))
    · cases e4
  · cases e4
theorem dPlus_cases {x y d : D} (h : dPlus x y = some d) : (∃ ds, dPlusL x y = some ds ∧ d = .list ds) ∨ dAdd x y = some d := by
  unfold dPlus at h
  split at h
  · split at h
    · rename_i hl
      cases h
      exact .inl ⟨_, if_pos hl, rfl⟩
    · cases h
  · exact .inr h
theorem de_plus {a b : Expr} {ma mb : Option D} {pos : Pos} (ha : DW X c Γ a ma) (hb : DW X c Γ b mb) : DE X c Γ (.BinOp a .Add b pos) (bin dPlus ma mb) := fun d hd σ H Q E k => by
  obtain ⟨x, e1, e2⟩ := Option.bind_eq_some_iff.mp hd
  obtain ⟨y, e3, e4⟩ := Option.bind_eq_some_iff.mp e2
  rcases dPlus_cases e4 with ⟨ds, e5, rfl⟩ | e5
  · exact DF.e (df_plus ha hb) _ (by unfold plusF; rw [e1, Option.bind_some, e3, Option.bind_some, e5]; rfl) σ H Q E k
  · exact de_op od_add ha hb d (by unfold bin; rw [e1, Option.bind_some, e3, Option.bind_some, e5]) σ H Q E k
variable {T : Type} {G : T → Env_}
def plusXF (a b : T → Option (D × T)) : T → Option (List D × T) := fun t => (a t).bind fun p => (b p.2).bind fun q => (dPlusL p.1 q.1).map fun z => (z, q.2)
theorem dxf_plus {a b : Expr} {ma mb : T → Option (D × T)} {pos : Pos} (ha : DX X c G a ma) (hb : DX X c G b mb) : DXF X c G (.BinOp a .Add b pos) (plusXF ma mb) := fun t d t' hd σ H Q E k => by
  obtain ⟨⟨x, t1⟩, e1, e2⟩ := Option.bind_eq_some_iff.mp hd
  obtain ⟨⟨y, t2⟩, e3, e4⟩ := Option.bind_eq_some_iff.mp e2
  obtain ⟨z, e5, e6⟩ := Option.map_eq_some_iff.mp e4
  cases e6
  replace e5 : dPlusL x y = some d := e5
  unfold dPlusL at e5
  split at e5
  · split at e5
    · rename_i hl
      cases e5
      refine sE_of (pe_op op_catL (pe_s a) (pe_s b)) (ha t _ t1 e1 σ H _ E fun v H1 E1 s1 r1 => hb t1 _ _ e3 σ H1 _ E1 fun u H2 E2 s2 r2 => ?_)
      obtain ⟨p, xs, rfl, hp, q1⟩ := RpW.list (.st (r1.mono (s2.mono E1)))
      obtain ⟨q, ys, rfl, hq, q2⟩ := RpW.list (.st r2)
      refine ⟨p, q, xs, ys, rfl, rfl, hp, hq, by rw [q1.length, q2.length]; exact Nat.le_trans hl (by decide), fun z hz => ?_⟩
      exact k z _ _ ((s1.trans s2).free E hz) (E2.same (Same.new hz)) ((s1.trans s2).trans (.of_same E2 (Same.new hz))) upd_same ((q1.append q2).mono (.of_same (Same.new hz)))
    · cases e5
  · cases e5
theorem dx_plus {a b : Expr} {ma mb : T → Option (D × T)} {pos : Pos} (ha : DX X c G a ma) (hb : DX X c G b mb) : DX X c G (.BinOp a .Add b pos) (binX dPlus ma mb) := fun t d t' hd σ H Q E k => by
  obtain ⟨⟨x, t1⟩, e1, e2⟩ := Option.bind_eq_some_iff.mp hd
  obtain ⟨⟨y, t2⟩, e3, e4⟩ := Option.bind_eq_some_iff.mp e2
  obtain ⟨z, e5, e6⟩ := Option.map_eq_some_iff.mp e4
  cases e6
  rcases dPlus_cases e5 with ⟨ds, e7, rfl⟩ | e7
  · exact dxf_frz (dxf_plus ha hb) t _ _ (by show ((plusXF ma mb) t).map _ = _; unfold plusXF; rw [e1, Option.bind_some, e3, Option.bind_some, e7]; rfl) σ H Q E k
  · exact dx_op od_add ha hb t _ _ (by show ((ma t).bind _) = _; rw [e1, Option.bind_some, e3, Option.bind_some, e7]; rfl) σ H Q E k
end
end DL

set_option Elab.async false
set_option linter.all false
set_option maxRecDepth 100000
set_option maxHeartbeats 2000000
set_option autoImplicit false
namespace DL
open PySem PySem.Spec PyProof.Rows L2
/-! ### a law's end: the script handed to its def -/
theorem frz_only {K : Fr_} {H : Hp} {a : Addr} {xs : List V} (o : Only H) (h : SqL K H a xs) : Fz K H a xs := by
  rcases h with (h | h) | h
  · rcases o a with z | ⟨ob, ys, z⟩
    · rw [h] at z
      cases z
    · rw [h] at z
      cases z
  · exact .inl h
  · exact .inr (.inr h)
theorem ints_rp {K : Fr_} {H : Hp} : ∀ ns : List Int, RpA K H (ns.map V.int) (ns.map PyData.int)
  | [] => .nil
  | n :: r => .cons (.int n) (ints_rp r)
section
variable {P : Program} {w : World} {K : Fr_} {mg mb : Str → Option Value} {k : Nat} {x : Str} {a fa : Addr} {s₁ : Shared} {vs : List Value} {ns : List Int} {g : List D → Option D}
theorem end_core {H : Hp} (KX : K.In s₁.heap) (hns : s₁.heap.Ns mainGlobals mg) (hb : s₁.heap.Ns builtinsNs mb) (hbb : ∀ y : Str, y ≠ "__name__" → mb y = bootBuiltins y) (hlim : s₁.heap.NoLimit) (hgen : s₁.gens = #[])
    (ha : s₁.heap.get? a = some { cls := .type "list", data := .seq vs.toArray }) (room : Room k callerA) (hf : mg x = some (.ref fa)) (F : ∀ base : Heap, K.In base → base.Ns mainGlobals mg → CalG P w K mg base k x (spP K g)) (hg : g [.list (ns.map .int)] = some (.bool true))
    (hO : Only H) (hS : SqL K H a (ns.map V.int)) (hok : HOk P w H s₁.heap) (hA : ∀ b, H b ≠ none → b = a) (hK : H a ≠ none → K.lookup a = none) :
    codeAny (model P w) callerA (.call (.ref fa) ⟨[.ref a], []⟩) (fun r s' => r = .ok (.ret (.bool true)) ∧ OldK s₁.heap s'.heap ∧ s'.os = s₁.os ∧ AllBare s'.gens) s₁ := by
  have toT : ∀ {b : Addr} {o : Obj}, s₁.heap.get? b = some o → H b = none → (hidT s₁.heap H).get? b = some o := fun h1 h2 => hidT_get h1 h2
  have dictN : ∀ {b : Addr} {o : Obj} {es : Array DictEntry} {ep : Nat}, s₁.heap.get? b = some o → o.data = .dict es ep → H b = none := by
    intro b o es ep h1 h2
    by_cases hb : H b = none
    · exact hb
    · have eb := hA b hb
      rw [eb, ha] at h1
      cases h1
      have z : Data.seq vs.toArray _ = Data.dict es ep := h2
      cases z
  have nsT : ∀ {b : Addr} {m : Str → Option Value}, s₁.heap.Ns b m → (hidT s₁.heap H).Ns b m := by
    rintro b m ⟨o, es, ep, h1, h2, h3⟩
    exact ⟨o, es, ep, toT h1 (dictN h1 h2), h2, h3⟩
  have inT : K.In (hidT s₁.heap H) := by
    intro b o h1
    refine toT (KX b o h1) ?_
    by_cases hb : H b = none
    · exact hb
    · have eb := hA b hb
      subst eb
      rw [hK hb] at h1
      cases h1
  have md : Mod K mg (hidT s₁.heap H) := by
    obtain ⟨mc, m1, m2⟩ := hlim
    exact ⟨inT, nsT hns, ⟨mb, nsT hb, hbb⟩, mc, nsT m1, m2⟩
  have env : Env0 P w K mg (hidT s₁.heap H) callerA [] s₁ H := ⟨rfl, md, fun b o h => of_hidT h, Nat.le_of_eq (hidT_size _ _), trivial, fun b hb => (by cases (show b ∈ ([] : List Addr) from hb)), hok, .of_eq hgen⟩
  obtain ⟨f, fd, ps, FF, hm, _, hbd⟩ := (F _ inT (nsT hns)).ex
  have ef : f = fa := by
    rw [hf] at hm
    cases hm
    rfl
  subst ef
  have sp : spP K g [.ref a] H (fun v _ => v = .bl true) := ⟨[.list (ns.map .int)], .bool true, .cons (.lst (frz_only hO hS) (ints_rp ns)) .nil, hg, fun v H' _ r => RpW.bool (.st r)⟩
  have hl : ([Value.ref a] ++ []).length = ps.length := FF.many sp
  have bt := hbd s₁ [.ref a] KX hl
  refine codeAny_mono (FF.runs (args := ⟨[.ref a], []⟩) room rfl env bt (.cons (show RelV (.ref a) (.ref a) from rfl) .nil) sp) fun r s' h => ?_
  match r, h with
  | .ok (.ret u), ⟨v, H', os, bare, un, hok', r', q⟩ =>
    have q' : v = .bl true := q
    subst q'
    obtain rfl : u = Value.bool true := r'
    refine ⟨rfl, OldK.of_keep fun b o e => ?_, os, bare⟩
    rcases hO b with hb | ⟨ob, xs, hb⟩
    · exact un.keep b o e hb (fun z => by cases (show b ∈ ([] : List Addr) from z)) (by simp)
    · have z2 := un.frzs b ob _ hb
      obtain ⟨e1, _⟩ := hok b _ hb
      obtain ⟨e2, _⟩ := hok' b _ z2
      rw [e] at e1
      cases e1
      exact e2
theorem end_call (KX : K.In s₁.heap) (hns : s₁.heap.Ns mainGlobals mg) (hb : s₁.heap.Ns builtinsNs mb) (hbb : ∀ y : Str, y ≠ "__name__" → mb y = bootBuiltins y) (hlim : s₁.heap.NoLimit) (hgen : s₁.gens = #[])
    (ha : s₁.heap.get? a = some { cls := .type "list", data := .seq vs.toArray }) (hi : IntsAre vs ns) (hl : ns.length ≤ sizeLine) (room : Room k callerA) (hf : mg x = some (.ref fa)) (F : ∀ base : Heap, K.In base → base.Ns mainGlobals mg → CalG P w K mg base k x (spP K g)) (hg : g [.list (ns.map .int)] = some (.bool true)) :
    codeAny (model P w) callerA (.call (.ref fa) ⟨[.ref a], []⟩) (fun r s' => r = .ok (.ret (.bool true)) ∧ OldK s₁.heap s'.heap ∧ s'.os = s₁.os ∧ AllBare s'.gens) s₁ := by
  have rv := vals_ints hi
  by_cases hk : K.lookup a = none
  · generalize hH : (fun b : Addr => if b = a then some (HO.frz { cls := .type "list", data := .seq vs.toArray } (.lst (ns.map V.int))) else none) = H
    have at_a : H a = some (HO.frz { cls := .type "list", data := .seq vs.toArray } (.lst (ns.map V.int))) := by
      rw [← hH]
      exact if_pos rfl
    have off_a : ∀ b, b ≠ a → H b = none := fun b hb => by
      rw [← hH]
      exact if_neg hb
    refine end_core (H := H) KX hns hb hbb hlim hgen ha room hf F hg (fun b => ?_) (.inl (.inr ⟨_, at_a⟩)) (fun b u hu => ?_) (fun b hb => ?_) fun _ => hk
    · by_cases e : b = a
      · rw [e]
        exact .inr ⟨_, _, at_a⟩
      · exact .inl (off_a b e)
    · by_cases e : b = a
      · rw [e] at hu ⊢
        rw [at_a] at hu
        cases hu
        exact ⟨ha, by rw [List.length_map]; exact hl, vs, _, rv, ha⟩
      · rw [off_a b e] at hu
        cases hu
    · by_cases e : b = a
      · exact e
      · exact absurd (off_a b e) hb
  · obtain ⟨o, ho⟩ := Option.ne_none_iff_exists'.mp hk
    have e := KX a o ho
    rw [ha] at e
    cases e
    refine end_core (H := fun _ => none) KX hns hb hbb hlim hgen ha room hf F hg (fun _ => .inl rfl) (.inr ⟨_, vs.toArray, _, ho, rfl, rfl, rfl, by rw [List.size_toArray, hi.length]; exact hl, by simpa using rv⟩) (fun b u hu => ?_) (fun b hb => absurd rfl hb) fun hb => absurd rfl hb
    have z : (none : Option HO) = some u := hu
    cases z
end
/-- the goal of the head: the def's promise, its answer at every script -/
theorem walk_end {l : PySem.W.OpenLaw} {n k : Nat} {q : Program} {loose : List Str} {XP : (Str → Option Value) → Heap → Prop} {YP : World → Heap → Prop} {d : DefRec} {g : List D → Option D} {x : Str} (hn : l.most = some n) (hn2 : n ≤ sizeLine) (hdf : d.params.defaults = []) (room : Room k callerA) (hx : d.name = x)
    (F : ∀ (w : World) (mg : Str → Option Value) (h : Heap), YP w h → h.Ns mainGlobals mg → ∃ K : PySem.W.Frag, K.In h ∧ ∀ base : Heap, K.In base → base.Ns mainGlobals mg → CalG l.prog w K mg base k x (spP K g))
    (hg : ∀ ns : List Int, ns.length ≤ n → g [.list (ns.map .int)] = some (.bool true)) : PySem.W.WalkO q loose XP YP l.row.toRowW d [] (fun f vs => PySem.call f vs) := by
  refine Att.attach_call hn hdf fun w s₀ s₁ mg mb fa o pm cd doc a vs ns G Y ho hd hcd hmg hobj hints hlen hgen => ?_
  obtain ⟨K, KX, FF⟩ := F w mg _ Y G.T.g
  rw [hx] at hmg
  exact end_call KX G.T.g G.T.b G.T.builtins G.T.nolimit hgen hobj hints (Nat.le_trans hlen hn2) room hmg FF (hg ns hlen)
end DL

set_option Elab.async false
set_option linter.all false
set_option maxRecDepth 100000
set_option maxHeartbeats 4000000
set_option autoImplicit false
namespace DL
open PySem PySem.Spec PyProof.Rows L2
noncomputable def B_is_int (x_value : D) (x_low : D) (x_high : D) : Option (Fl (Unit) Empty (D)) :=
  ((andV ((some x_value).bind (dIsi "int")) (andV (notV ((some x_value).bind (dIsi "bool"))) (chainO dLe dLe (some x_low) (some x_value) (some x_high)))).map fun d => .rt d)
noncomputable def M_is_int (x_value : D) (x_low : D) (x_high : D) : Option D := (B_is_int x_value x_low x_high).bind finP
noncomputable def b_is_int : List D → Option (Fl (Unit) Empty (D))
  | [x_value, x_low, x_high] => B_is_int x_value x_low x_high
  | _ => none
noncomputable def g_is_int (ds : List D) : Option D := (b_is_int ds).bind finP
noncomputable def B_are_ints (x_value : D) (x_low : D) (x_high : D) : Option (Fl (Unit) Empty (D)) :=
  ((andV ((some x_value).bind (dIsi "tuple")) ((consO ((lenOk (((some x_value).bind iterD).bind (lcF some (fun p1 : D => some true) fun p1 : D => ((consO (some p1) (consO (some x_low) (consO (some x_high) (some [])))).bind g_is_int)))).map .list) (some [])).bind dAll)).map fun d => .rt d)
noncomputable def M_are_ints (x_value : D) (x_low : D) (x_high : D) : Option D := (B_are_ints x_value x_low x_high).bind finP
noncomputable def b_are_ints : List D → Option (Fl (Unit) Empty (D))
  | [x_value, x_low, x_high] => B_are_ints x_value x_low x_high
  | _ => none
noncomputable def g_are_ints (ds : List D) : Option D := (b_are_ints ds).bind finP
noncomputable def B_is_bucket (x_value : D) : Option (Fl (Unit) Empty (D)) :=
  ((andV ((consO (some x_value) (consO (some (.int 1)) (consO (some (.int 1000000)) (some [])))).bind g_are_ints) (bin dEq ((consO (some x_value) (some [])).bind dLen) (some (.int 2)))).map fun d => .rt d)
noncomputable def M_is_bucket (x_value : D) : Option D := (B_is_bucket x_value).bind finP
noncomputable def b_is_bucket : List D → Option (Fl (Unit) Empty (D))
  | [x_value] => B_is_bucket x_value
  | _ => none
noncomputable def g_is_bucket (ds : List D) : Option D := (b_is_bucket ds).bind finP
noncomputable def B_are_buckets (x_value : D) : Option (Fl (Unit) Empty (D)) :=
  ((andV ((some x_value).bind (dIsi "tuple")) (andV (chainO dLe dLe (some (.int 1)) ((consO (some x_value) (some [])).bind dLen) (some (.int 6))) ((consO ((lenOk (((some x_value).bind iterD).bind (lcF some (fun p1 : D => some true) fun p1 : D => ((consO (some p1) (some [])).bind g_is_bucket)))).map .list) (some [])).bind dAll))).map fun d => .rt d)
noncomputable def M_are_buckets (x_value : D) : Option D := (B_are_buckets x_value).bind finP
noncomputable def b_are_buckets : List D → Option (Fl (Unit) Empty (D))
  | [x_value] => B_are_buckets x_value
  | _ => none
noncomputable def g_are_buckets (ds : List D) : Option D := (b_are_buckets ds).bind finP
noncomputable def B_are_arrivals (x_value : D) : Option (Fl (Unit) Empty (D)) :=
  (iteO (orT ((((consO (some x_value) (consO (some (.int 0)) (consO (some (.int 1000000)) (some [])))).bind g_are_ints).bind isB).map (!·)) ((bin dGt ((consO (some x_value) (some [])).bind dLen) (some (.int 200))).bind isB)) ((((some (.bool false)).map fun d => .rt d) : Option (Fl Empty (Empty) (D))).map castFl) (((consO ((lenOk (((consO (some x_value) (consO (slO dSl (some x_value) ((some (.int 1)).bind fun d => (isI d).map some) (some none)) (some []))).bind dZip2).bind (lcF (un2 some some) (fun p2 : (D × D) => some true) fun p2 : (D × D) => (bin dLe (some p2.1) (some p2.2))))).map .list) (some [])).bind dAll).map fun d => .rt d))
noncomputable def M_are_arrivals (x_value : D) : Option D := (B_are_arrivals x_value).bind finP
noncomputable def b_are_arrivals : List D → Option (Fl (Unit) Empty (D))
  | [x_value] => B_are_arrivals x_value
  | _ => none
noncomputable def g_are_arrivals (ds : List D) : Option D := (b_are_arrivals ds).bind finP
noncomputable def B_look_at_both (x_arrivals : D) (x_bucket : D) : Option (Fl (Unit) Empty (D)) :=
  (iteO ((((consO (some x_arrivals) (some [])).bind g_are_arrivals).bind isB).map (!·)) ((none : Option (Fl Empty (Empty) (D))).map castFl) (iteO ((((consO (some x_bucket) (some [])).bind g_is_bucket).bind isB).map (!·)) ((none : Option (Fl Empty (Empty) (D))).map castFl) (some (.nx ()))))
noncomputable def M_look_at_both (x_arrivals : D) (x_bucket : D) : Option D := (B_look_at_both x_arrivals x_bucket).bind finP
noncomputable def b_look_at_both : List D → Option (Fl (Unit) Empty (D))
  | [x_arrivals, x_bucket] => B_look_at_both x_arrivals x_bucket
  | _ => none
noncomputable def g_look_at_both (ds : List D) : Option D := (b_look_at_both ds).bind finP
noncomputable def B_most_within (x_bucket : D) (x_ticks : D) : Option (Fl (Unit) Empty (D)) :=
  ((bin dPlus (bin dIx (some x_bucket) (some (.int 0))) (bin dFdiv (some x_ticks) (bin dIx (some x_bucket) (some (.int 1))))).map fun d => .rt d)
noncomputable def M_most_within (x_bucket : D) (x_ticks : D) : Option D := (B_most_within x_bucket x_ticks).bind finP
noncomputable def b_most_within : List D → Option (Fl (Unit) Empty (D))
  | [x_bucket, x_ticks] => B_most_within x_bucket x_ticks
  | _ => none
noncomputable def g_most_within (ds : List D) : Option D := (b_most_within ds).bind finP
noncomputable def L1_told_crowd (x_arrivals : D) (x_bucket : D) (x_last : D) (x_end : D) (l7 : Unit) (p8 : D) : Option (Fl (Unit) (Unit) (D)) :=
  (iteO ((bin dGt (bin dPlus (bin dSub (some x_last) (some p8)) (some (.int 1))) ((consO (some x_bucket) (consO (bin dSub (some x_end) (bin dIx (some x_arrivals) (some p8))) (some []))).bind g_most_within)).bind isB) (((((lenOk (consO (some p8) (consO (some x_last) (some [])))).map .tuple).map fun d => .rt d) : Option (Fl Empty (Unit) (D))).map castFl) (some (.nx ())))
noncomputable def L2_told_crowd (x_arrivals : D) (x_bucket : D) (l1 : Unit) (p2 : (D × D)) : Option (Fl (Unit) (Unit) (D)) :=
  ((((bin dPlus (some p2.1) (some (.int 1))).bind dR1).bind fun its => forF (L := Unit) (R := D) (fun l x => (some x).bind (L1_told_crowd x_arrivals x_bucket p2.1 p2.2 l)) its ()).bind (seqLp fun l3 => (some (.nx ()))))
noncomputable def B_told_crowd (x_arrivals : D) (x_bucket : D) : Option (Fl (Unit) Empty (D)) :=
  ((((some x_arrivals).bind enumD).bind fun its => forF (L := Unit) (R := D) (fun l x => ((un2 some some) x).bind (L2_told_crowd x_arrivals x_bucket l)) its ()).bind (seqLp fun l1 => ((some .none).map fun d => .rt d)))
noncomputable def M_told_crowd (x_arrivals : D) (x_bucket : D) : Option D := (B_told_crowd x_arrivals x_bucket).bind finP
noncomputable def b_told_crowd : List D → Option (Fl (Unit) Empty (D))
  | [x_arrivals, x_bucket] => B_told_crowd x_arrivals x_bucket
  | _ => none
noncomputable def g_told_crowd (ds : List D) : Option D := (b_told_crowd ds).bind finP
noncomputable def B_fits (x_arrivals : D) (x_bucket : D) : Option (Fl (Unit) Empty (D)) :=
  (((consO (some x_arrivals) (consO (some x_bucket) (some []))).bind g_look_at_both).bind fun _ => (((consO (some x_arrivals) (consO (some x_bucket) (some []))).bind g_told_crowd).bind fun v1 => ((iteO ((bin dIs (some v1) (some .none)).bind isB) ((lenOk (consO (some (.str "fits")) (some []))).map .tuple) ((lenOk (consO (some (.str "crowd")) (starO (some v1) (some [])))).map .tuple)).map fun d => .rt d)))
noncomputable def M_fits (x_arrivals : D) (x_bucket : D) : Option D := (B_fits x_arrivals x_bucket).bind finP
noncomputable def b_fits : List D → Option (Fl (Unit) Empty (D))
  | [x_arrivals, x_bucket] => B_fits x_arrivals x_bucket
  | _ => none
noncomputable def g_fits (ds : List D) : Option D := (b_fits ds).bind finP
noncomputable def L1_told_held (x_burst : D) (x_every : D) (x_found : List D) (x_at : D) (l20 : D) (p21 : D) : Option (Fl (D) (D) (D)) :=
  ((bin dSub (bin dPlus (bin dSub (some x_at) (some p21)) (some (.int 1))) (some x_burst)).bind fun v22 => ((iteO ((bin dGt (some v22) (some (.int 0))).bind isB) (((consO (some l20) (consO (bin dPlus (bin dIx (some (.list x_found)) (some p21)) (bin dMul (some v22) (some x_every))) (some []))).bind dMax).bind fun v26 => (some (.nx v26))) (some (.nx l20)) : Option (Fl (D) (D) (D))).bind (seqFl fun n25 => (some (.nx n25)))))
noncomputable def L2_told_held (x_burst : D) (x_every : D) (l3 : List D) (p4 : (D × D)) : Option (Fl (List D) (List D) (D)) :=
  ((iteO ((bin dNe (some (.list l3)) ((lenOk (some [])).map .list)).bind isB) ((consO (some p4.2) (consO (bin dIx (some (.list l3)) ((some (.int 1)).bind dNeg)) (some []))).bind dMax) (some p4.2)).bind fun v5 => ((((some p4.1).bind dR1).bind fun its => forF (L := D) (R := D) (fun l x => (some x).bind (L1_told_held x_burst x_every l3 p4.1 l)) its v5).bind (seqLp fun l6 => (((some l6).bind (appD l3)).bind fun v18 => (some (.nx v18))))))
noncomputable def B_told_held (x_arrivals : D) (x_bucket : D) : Option (Fl (Unit) Empty (D)) :=
  (((some x_bucket).bind (un2 some some)).bind fun v1 => ((lenOk (some [])).bind fun v2 => ((((some x_arrivals).bind enumD).bind fun its => forF (L := List D) (R := D) (fun l x => ((un2 some some) x).bind (L2_told_held v1.1 v1.2 l)) its v2).bind (seqLp fun l3 => (((consO (some (.list l3)) (some [])).bind dTuple).map fun d => .rt d)))))
noncomputable def M_told_held (x_arrivals : D) (x_bucket : D) : Option D := (B_told_held x_arrivals x_bucket).bind finP
noncomputable def b_told_held : List D → Option (Fl (Unit) Empty (D))
  | [x_arrivals, x_bucket] => B_told_held x_arrivals x_bucket
  | _ => none
noncomputable def g_told_held (ds : List D) : Option D := (b_told_held ds).bind finP
noncomputable def B_held_back (x_arrivals : D) (x_bucket : D) : Option (Fl (Unit) Empty (D)) :=
  (((consO (some x_arrivals) (consO (some x_bucket) (some []))).bind g_look_at_both).bind fun _ => (((consO (some x_arrivals) (consO (some x_bucket) (some []))).bind g_told_held).map fun d => .rt d))
noncomputable def M_held_back (x_arrivals : D) (x_bucket : D) : Option D := (B_held_back x_arrivals x_bucket).bind finP
noncomputable def b_held_back : List D → Option (Fl (Unit) Empty (D))
  | [x_arrivals, x_bucket] => B_held_back x_arrivals x_bucket
  | _ => none
noncomputable def g_held_back (ds : List D) : Option D := (b_held_back ds).bind finP
noncomputable def B_longest_wait (x_arrivals : D) (x_bucket : D) : Option (Fl (Unit) Empty (D)) :=
  (((consO (some x_arrivals) (consO (some x_bucket) (some []))).bind g_look_at_both).bind fun _ => (((consO ((lenOk (consO (some (.int 0)) (starO ((lenOk (((consO (some x_arrivals) (consO ((consO (some x_arrivals) (consO (some x_bucket) (some []))).bind g_told_held) (some []))).bind dZip2).bind (lcF (un2 some some) (fun p1 : (D × D) => some true) fun p1 : (D × D) => (bin dSub (some p1.2) (some p1.1))))).map .list) (some [])))).map .list) (some [])).bind dMax).map fun d => .rt d))
noncomputable def M_longest_wait (x_arrivals : D) (x_bucket : D) : Option D := (B_longest_wait x_arrivals x_bucket).bind finP
noncomputable def b_longest_wait : List D → Option (Fl (Unit) Empty (D))
  | [x_arrivals, x_bucket] => B_longest_wait x_arrivals x_bucket
  | _ => none
noncomputable def g_longest_wait (ds : List D) : Option D := (b_longest_wait ds).bind finP
noncomputable def L1_through_all  (l3 : D) (p4 : D) : Option (Fl (D) (D) (D)) :=
  (((consO (some l3) (consO (some p4) (some []))).bind g_told_held).bind fun v5 => (some (.nx v5)))
noncomputable def B_through_all (x_arrivals : D) (x_buckets : D) : Option (Fl (Unit) Empty (D)) :=
  (iteO ((((consO (some x_arrivals) (some [])).bind g_are_arrivals).bind isB).map (!·)) ((none : Option (Fl Empty (Empty) (D))).map castFl) (iteO ((((consO (some x_buckets) (some [])).bind g_are_buckets).bind isB).map (!·)) ((none : Option (Fl Empty (Empty) (D))).map castFl) ((((some x_buckets).bind iterD).bind fun its => forF (L := D) (R := D) (fun l x => (some x).bind (L1_through_all l)) its x_arrivals).bind (seqLp fun l3 => ((some l3).map fun d => .rt d)))))
noncomputable def M_through_all (x_arrivals : D) (x_buckets : D) : Option D := (B_through_all x_arrivals x_buckets).bind finP
noncomputable def b_through_all : List D → Option (Fl (Unit) Empty (D))
  | [x_arrivals, x_buckets] => B_through_all x_arrivals x_buckets
  | _ => none
noncomputable def g_through_all (ds : List D) : Option D := (b_through_all ds).bind finP
noncomputable def L1_least_burst (x_arrivals : D) (x_every : D) (x_last : D) (x_end : D) (l10 : D) (p11 : D) : Option (Fl (D) (D) (D)) :=
  (((consO (some l10) (consO (bin dSub (bin dPlus (bin dSub (some x_last) (some p11)) (some (.int 1))) (bin dFdiv (bin dSub (some x_end) (bin dIx (some x_arrivals) (some p11))) (some x_every))) (some []))).bind dMax).bind fun v12 => (some (.nx v12)))
noncomputable def L2_least_burst (x_arrivals : D) (x_every : D) (l4 : D) (p5 : (D × D)) : Option (Fl (D) (D) (D)) :=
  ((((bin dPlus (some p5.1) (some (.int 1))).bind dR1).bind fun its => forF (L := D) (R := D) (fun l x => (some x).bind (L1_least_burst x_arrivals x_every p5.1 p5.2 l)) its l4).bind (seqLp fun l6 => (some (.nx l6))))
noncomputable def B_least_burst (x_arrivals : D) (x_every : D) : Option (Fl (Unit) Empty (D)) :=
  (iteO ((((consO (some x_arrivals) (some [])).bind g_are_arrivals).bind isB).map (!·)) ((none : Option (Fl Empty (Empty) (D))).map castFl) (iteO ((((consO (some x_every) (consO (some (.int 1)) (consO (some (.int 1000000)) (some [])))).bind g_is_int).bind isB).map (!·)) ((none : Option (Fl Empty (Empty) (D))).map castFl) ((some (.int 1)).bind fun v3 => ((((some x_arrivals).bind enumD).bind fun its => forF (L := D) (R := D) (fun l x => ((un2 some some) x).bind (L2_least_burst x_arrivals x_every l)) its v3).bind (seqLp fun l4 => ((some l4).map fun d => .rt d))))))
noncomputable def M_least_burst (x_arrivals : D) (x_every : D) : Option D := (B_least_burst x_arrivals x_every).bind finP
noncomputable def b_least_burst : List D → Option (Fl (Unit) Empty (D))
  | [x_arrivals, x_every] => B_least_burst x_arrivals x_every
  | _ => none
noncomputable def g_least_burst (ds : List D) : Option D := (b_least_burst ds).bind finP
noncomputable def B__law_pot (x_script : D) (x_place : D) : Option (Fl (Unit) Empty (List D)) :=
  ((iteO ((bin dLt (some x_place) ((consO (some x_script) (some [])).bind dLen)).bind isB) (bin dIx (some x_script) (some x_place)) (bin dPlus (bin dPlus (bin dMod ((consO ((consO (slO dSl (some x_script) (some none) ((some (.int 1)).bind fun d => (isI d).map some)) (some [])).bind dSum) (some [])).bind dInt) (some (.int 1000211))) (bin dMul (some (.int 4639)) (some x_place))) (some (.int 3163)))).bind fun v1 => ((bin dMul (bin dMod ((consO ((consO (some v1) (some [])).bind dAbs) (some [])).bind dInt) (bin dPow (bin dPow (some (.int 10)) (some (.int 60))) (some (.int 5)))) ((consO (bin dGe ((consO (some v1) (some [])).bind dAbs) (bin dPow (some (.int 10)) (some (.int 18)))) (some [])).bind dInt)).bind fun v2 => ((bin dMod ((consO (some v1) (some [])).bind dInt) (some (.int 2305843009213693951))).bind fun v3 => ((lenOk (consO (some v2) (consO (bin dMod ((consO (bin dPlus (bin dPlus (bin dMul (some v3) (some (.int 72161))) (bin dMul (bin dMul (some (.int 10853)) (some x_place)) (some x_place))) (some (.int 2843))) (some [])).bind dInt) (some (.int 2305843009213693921))) (consO (some (.int 0)) (some []))))).map fun d => .rt d))))
noncomputable def M__law_pot (x_script : D) (x_place : D) : Option (List D) := (B__law_pot x_script x_place).bind finF
noncomputable def b__law_pot : List D → Option (Fl (Unit) Empty (List D))
  | [x_script, x_place] => B__law_pot x_script x_place
  | _ => none
noncomputable def g__law_pot (ds : List D) : Option (List D) := (b__law_pot ds).bind finF
noncomputable def B__law_take (x_pot : List D) (x_upto : D) : Option (Fl (List D) Empty (D × List D)) :=
  (iteO ((bin dGt (bin dIx (some (.list x_pot)) (some (.int 0))) (some (.int 0))).bind isB) ((((bin dMod ((consO (bin dIx (some (.list x_pot)) (some (.int 0))) (some [])).bind dInt) (some x_upto)).bind fun v2 => (((bin dFdiv (bin dIx (some (.list x_pot)) (some (.int 0))) (some x_upto)).bind fun d => (some (.int 0)).bind fun q => setD x_pot q d).bind fun v3 => ((some v2).map fun d => .rt (d, v3)))) : Option (Fl Empty (Empty) (D × List D))).map castFl) (((bin dPlus (bin dIx (some (.list x_pot)) (some (.int 2))) (some (.int 1))).bind fun d => (some (.int 2)).bind fun q => setD x_pot q d).bind fun v4 => ((bin dIx ((lenOk (consO (some (.int 2147483647)) (consO (some (.int 2147483629)) (consO (some (.int 2147483587)) (consO (some (.int 2147483579)) (consO (some (.int 2147483563)) (some []))))))).map .list) (bin dMod ((consO (bin dIx (some (.list v4)) (some (.int 2))) (some [])).bind dInt) (some (.int 5)))).bind fun v5 => ((bin dMod ((consO (bin dPow ((consO (bin dPlus (bin dPlus (bin dIx (some (.list v4)) (some (.int 1))) (bin dMul (bin dMul (some (.int 95257)) (bin dIx (some (.list v4)) (some (.int 2)))) (bin dIx (some (.list v4)) (some (.int 2))))) (some (.int 3163))) (some [])).bind dInt) (some (.int 3))) (some [])).bind dInt) (some v5)).bind fun v6 => ((bin dMod ((consO (bin dMul (some v6) (bin dPlus (bin dMod ((consO (some v6) (some [])).bind dInt) (some (.int 13441))) (bin dMul (some (.int 419)) (bin dIx (some (.list v4)) (some (.int 2)))))) (some [])).bind dInt) (some (.int 2305843009213693907))).bind fun v7 => ((bin dMod ((consO (bin dFdiv (some v7) (some (.int 229))) (some [])).bind dInt) (some x_upto)).map fun d => .rt (d, v4)))))))
noncomputable def M__law_take (x_pot : List D) (x_upto : D) : Option (D × List D) := (B__law_take x_pot x_upto).bind finM
noncomputable def b__law_take (qs : List D) : List D → Option (Fl (List D) Empty (D × List D))
  | [x_upto] => B__law_take qs x_upto
  | _ => none
noncomputable def g__law_take (qs ds : List D) : Option (D × List D) := (b__law_take qs ds).bind finM
noncomputable def B__law_of (x_pot : List D) (x_some : D) : Option (Fl (List D) Empty (D × List D)) :=
  (((binX dIx (liftX fun p => (some x_some)) (fun ps => ((consX (liftX fun p => ((consO (some x_some) (some [])).bind dLen)) (fun t => some ([], t))) ps).bind fun q => g__law_take q.2 q.1)) x_pot).map fun q => .rt q)
noncomputable def M__law_of (x_pot : List D) (x_some : D) : Option (D × List D) := (B__law_of x_pot x_some).bind finM
noncomputable def b__law_of (qs : List D) : List D → Option (Fl (List D) Empty (D × List D))
  | [x_some] => B__law_of qs x_some
  | _ => none
noncomputable def g__law_of (qs ds : List D) : Option (D × List D) := (b__law_of qs ds).bind finM
noncomputable def B__law_cells (x_script : D) (x_most : D) : Option (Fl (Unit) Empty (List D)) :=
  ((((consO (some (.int 1)) (consO ((consO (some x_most) (consO ((consO (some x_script) (some [])).bind dLen) (some []))).bind dMin) (some []))).bind dMax).bind dLR1).map fun d => .rt d)
noncomputable def M__law_cells (x_script : D) (x_most : D) : Option (List D) := (B__law_cells x_script x_most).bind finF
noncomputable def b__law_cells : List D → Option (Fl (Unit) Empty (List D))
  | [x_script, x_most] => B__law_cells x_script x_most
  | _ => none
noncomputable def g__law_cells (ds : List D) : Option (List D) := (b__law_cells ds).bind finF
noncomputable def L1__law_row (x_size : D) (l2 : List D × List D) (p3 : D) : Option (Fl (List D × List D) (List D × List D) (D × List D)) :=
  ((bindX' (binX dPlus (liftX fun p => (bin dIx (some (.list l2.2)) ((some (.int 1)).bind dNeg))) (appX dInt (consX (fun ps => ((consX (liftX fun p => (some x_size)) (fun t => some ([], t))) ps).bind fun q => g__law_take q.2 q.1) (fun t => some ([], t))))) (fun d _ => appD l2.2 d) l2.1).bind fun v4 => (some (.nx (v4.2, v4.1))))
noncomputable def B__law_row (x_pot : List D) (x_many : D) : Option (Fl (List D) Empty (D × List D)) :=
  ((two  (lenOkX (consX (appX dInt (consX (fun ps => ((consX (liftX fun p => (some (.int 40))) (fun t => some ([], t))) ps).bind fun q => g__law_take q.2 q.1) (fun t => some ([], t)))) (fun t => some ([], t)))) (fun ps => ((consX (liftX fun p => ((lenOk (consO (some (.int 1)) (consO (some (.int 2)) (consO (some (.int 5)) (consO (some (.int 40)) (some [])))))).map .tuple)) (fun t => some ([], t))) ps).bind fun q => g__law_of q.2 q.1) x_pot).bind fun v1 => ((((bindX (fun ps => ((consX (liftX fun p => (some x_many)) (fun t => some ([], t))) ps).bind fun q => g__law_take q.2 q.1) dR1) v1.2).bind fun q => forF (L := List D × List D) (R := D × List D) (fun l x => (some x).bind (L1__law_row v1.1.2 l)) q.1 ((fun p => (p, v1.1.1)) q.2)).bind (seqLp fun l2 => (((consO (some (.list l2.2)) (some [])).bind dTuple).map fun d => .rt (d, l2.1)))))
noncomputable def M__law_row (x_pot : List D) (x_many : D) : Option (D × List D) := (B__law_row x_pot x_many).bind finM
noncomputable def b__law_row (qs : List D) : List D → Option (Fl (List D) Empty (D × List D))
  | [x_many] => B__law_row qs x_many
  | _ => none
noncomputable def g__law_row (qs ds : List D) : Option (D × List D) := (b__law_row qs ds).bind finM
noncomputable def B__law_bucket (x_pot : List D) : Option (Fl (List D) Empty (D × List D)) :=
  (((tupX (consX (binX dPlus (liftX fun p => (some (.int 1))) (appX dInt (consX (fun ps => ((consX (fun ps => ((consX (liftX fun p => ((lenOk (consO (some (.int 2)) (consO (some (.int 4)) (consO (some (.int 9)) (some []))))).map .tuple)) (fun t => some ([], t))) ps).bind fun q => g__law_of q.2 q.1) (fun t => some ([], t))) ps).bind fun q => g__law_take q.2 q.1) (fun t => some ([], t))))) (consX (binX dPlus (liftX fun p => (some (.int 1))) (appX dInt (consX (fun ps => ((consX (fun ps => ((consX (liftX fun p => ((lenOk (consO (some (.int 3)) (consO (some (.int 12)) (consO (some (.int 30)) (some []))))).map .tuple)) (fun t => some ([], t))) ps).bind fun q => g__law_of q.2 q.1) (fun t => some ([], t))) ps).bind fun q => g__law_take q.2 q.1) (fun t => some ([], t))))) (fun t => some ([], t))))) x_pot).map fun q => .rt q)
noncomputable def M__law_bucket (x_pot : List D) : Option (D × List D) := (B__law_bucket x_pot).bind finM
noncomputable def b__law_bucket (qs : List D) : List D → Option (Fl (List D) Empty (D × List D))
  | [] => B__law_bucket qs 
  | _ => none
noncomputable def g__law_bucket (qs ds : List D) : Option (D × List D) := (b__law_bucket qs ds).bind finM
noncomputable def B__law_later (x_row : D) (x_by : D) : Option (Fl (Unit) Empty (D)) :=
  (((consO ((lenOk (((some x_row).bind iterD).bind (lcF some (fun p1 : D => some true) fun p1 : D => (bin dPlus (some p1) (some x_by))))).map .list) (some [])).bind dTuple).map fun d => .rt d)
noncomputable def M__law_later (x_row : D) (x_by : D) : Option D := (B__law_later x_row x_by).bind finP
noncomputable def b__law_later : List D → Option (Fl (Unit) Empty (D))
  | [x_row, x_by] => B__law_later x_row x_by
  | _ => none
noncomputable def g__law_later (ds : List D) : Option D := (b__law_later ds).bind finP
noncomputable def L1__law_gone (x_bucket : D) (l2 : List D) (p3 : (D × D)) : Option (Fl (List D) (List D) (D)) :=
  ((lenOk (((some p3.1).bind dR1).bind (lcF some (fun p5 : D => ((bin dGe (bin dSub (some p3.1) (some p5)) (bin dIx (some x_bucket) (some (.int 0)))).bind isB)) fun p5 : D => (bin dPlus (bin dIx (some (.list l2)) (some p5)) (bin dMul (bin dSub (bin dPlus (bin dSub (some p3.1) (some p5)) (some (.int 1))) (bin dIx (some x_bucket) (some (.int 0)))) (bin dIx (some x_bucket) (some (.int 1)))))))).bind fun v4 => ((((consO (bin dPlus (some ((.list v4))) ((lenOk (consO (some p3.2) (some []))).map .list)) (some [])).bind dMax).bind (appD l2)).bind fun v6 => (some (.nx v6))))
noncomputable def B__law_gone (x_row : D) (x_bucket : D) : Option (Fl (Unit) Empty (D)) :=
  ((lenOk (some [])).bind fun v1 => ((((some x_row).bind enumD).bind fun its => forF (L := List D) (R := D) (fun l x => ((un2 some some) x).bind (L1__law_gone x_bucket l)) its v1).bind (seqLp fun l2 => (((consO (some (.list l2)) (some [])).bind dTuple).map fun d => .rt d))))
noncomputable def M__law_gone (x_row : D) (x_bucket : D) : Option D := (B__law_gone x_row x_bucket).bind finP
noncomputable def b__law_gone : List D → Option (Fl (Unit) Empty (D))
  | [x_row, x_bucket] => B__law_gone x_row x_bucket
  | _ => none
noncomputable def g__law_gone (ds : List D) : Option D := (b__law_gone ds).bind finP
noncomputable def B__law_are_two_right (x_pot : List D) (x_one : D) (x_other : D) (x_bucket : D) : Option (Fl (List D) Empty (D × List D)) :=
  (((consO (some x_one) (consO (some x_bucket) (some []))).bind g__law_gone).bind fun v1 => (iteO (orT ((bin dNe ((consO ((consO (some x_one) (consO (some x_bucket) (some []))).bind g_held_back) (some [])).bind dRepr) ((consO (some v1) (some [])).bind dRepr)).bind isB) ((bin dNe ((consO (some x_one) (consO (some x_bucket) (some []))).bind g_longest_wait) ((consO ((lenOk (((consO (some v1) (consO (some x_one) (some []))).bind dZip2).bind (lcF (un2 some some) (fun p3 : (D × D) => some true) fun p3 : (D × D) => (bin dSub (some p3.1) (some p3.2))))).map .list) (some [])).bind dMax)).bind isB)) ((((some (.bool false)).map fun d => .rt (d, x_pot)) : Option (Fl Empty (Empty) (D × List D))).map castFl) ((bin dIx (some v1) ((some (.int 1)).bind dNeg)).bind fun v4 => (((binX dPlus (liftX fun p => (bin dPlus (some v4) (bin dMul (bin dIx (some x_bucket) (some (.int 0))) (bin dIx (some x_bucket) (some (.int 1)))))) (appX dInt (consX (fun ps => ((consX (liftX fun p => (some (.int 500))) (fun t => some ([], t))) ps).bind fun q => g__law_take q.2 q.1) (fun t => some ([], t))))) x_pot).bind fun v5 => (((consO (some x_other) (consO (some v5.1) (some []))).bind g__law_later).bind fun v6 => (iteO ((bin dNe ((consO ((consO (bin dPlus (some x_one) (some v6)) (consO (some x_bucket) (some []))).bind g_held_back) (some [])).bind dRepr) ((consO (bin dPlus ((consO (some x_one) (consO (some x_bucket) (some []))).bind g_held_back) ((consO ((consO (some x_other) (consO (some x_bucket) (some []))).bind g_held_back) (consO (some v5.1) (some []))).bind g__law_later)) (some [])).bind dRepr)).bind isB) ((((some (.bool false)).map fun d => .rt (d, v5.2)) : Option (Fl Empty (Empty) (D × List D))).map castFl) (iteO ((bin dNe (bin dEq ((consO (bin dPlus (some x_one) (some v6)) (consO (some x_bucket) (some []))).bind g_fits) ((lenOk (consO (some (.str "fits")) (some []))).map .tuple)) (chainO dEq dEq ((consO (some x_one) (consO (some x_bucket) (some []))).bind g_fits) ((consO (some x_other) (consO (some x_bucket) (some []))).bind g_fits) ((lenOk (consO (some (.str "fits")) (some []))).map .tuple))).bind isB) ((((some (.bool false)).map fun d => .rt (d, v5.2)) : Option (Fl Empty (Empty) (D × List D))).map castFl) ((lenOk ((((lenOk (consO (some x_one) (consO (some x_other) (some [])))).map .tuple).bind iterD).bind (lcF some (fun p10 : D => some true) fun p10 : D => ((consO (some p10) (consO (some x_bucket) (some []))).bind g_longest_wait)))).bind fun v9 => (iteO (orT ((bin dNe ((consO (bin dPlus (some x_one) (some v6)) (consO (some x_bucket) (some []))).bind g_longest_wait) ((consO (some ((.list v9))) (some [])).bind dMax)).bind isB) ((bin dNe ((consO (some v6) (consO (some x_bucket) (some []))).bind g_longest_wait) (bin dIx (some ((.list v9))) (some (.int 1)))).bind isB)) ((((some (.bool false)).map fun d => .rt (d, v5.2)) : Option (Fl Empty (Empty) (D × List D))).map castFl) ((lenOk ((((lenOk (consO (some x_one) (consO (some x_other) (some [])))).map .tuple).bind iterD).bind (lcF some (fun p13 : D => some true) fun p13 : D => ((consO (some p13) (consO (bin dIx (some x_bucket) (some (.int 1))) (some []))).bind g_least_burst)))).bind fun v12 => (((consO (some x_other) (consO (bin dPlus (bin dIx (some x_one) ((some (.int 1)).bind dNeg)) (bin dMul (some (.int 30)) (bin dIx (some x_bucket) (some (.int 1))))) (some []))).bind g__law_later).bind fun v14 => ((andV (bin dEq ((consO (bin dPlus (some x_one) (some v14)) (consO (bin dIx (some x_bucket) (some (.int 1))) (some []))).bind g_least_burst) ((consO (some ((.list v12))) (some [])).bind dMax)) (bin dEq ((consO (some v6) (consO (bin dIx (some x_bucket) (some (.int 1))) (some []))).bind g_least_burst) (bin dIx (some ((.list v12))) (some (.int 1))))).map fun d => .rt (d, v5.2)))))))))))))
noncomputable def M__law_are_two_right (x_pot : List D) (x_one : D) (x_other : D) (x_bucket : D) : Option (D × List D) := (B__law_are_two_right x_pot x_one x_other x_bucket).bind finM
noncomputable def b__law_are_two_right (qs : List D) : List D → Option (Fl (List D) Empty (D × List D))
  | [x_one, x_other, x_bucket] => B__law_are_two_right qs x_one x_other x_bucket
  | _ => none
noncomputable def g__law_are_two_right (qs ds : List D) : Option (D × List D) := (b__law_are_two_right qs ds).bind finM
noncomputable def L1__law_is_cut_right (x_pot : List D) (x_row : D) (x_told : D) (x_some : D) (l12 : Unit) (p13 : D) : Option (Fl (Unit) (Unit) (D × List D)) :=
  (iteO (orT (andT ((bin dEq ((consO (some x_row) (consO (some p13) (some []))).bind g_fits) ((lenOk (consO (some (.str "fits")) (some []))).map .tuple)).bind isB) ((bin dNe ((consO (some x_some) (consO (some p13) (some []))).bind g_fits) ((lenOk (consO (some (.str "fits")) (some []))).map .tuple)).bind isB)) ((bin dNe ((consO (some x_told) (consO (some p13) (some []))).bind g_fits) ((lenOk (consO (some (.str "fits")) (some []))).map .tuple)).bind isB)) ((((some (.bool false)).map fun d => .rt (d, x_pot)) : Option (Fl Empty (Unit) (D × List D))).map castFl) (iteO (andT ((bin dGt ((consO (some x_some) (consO (bin dIx (some p13) (some (.int 1))) (some []))).bind g_least_burst) ((consO (some x_row) (consO (bin dIx (some p13) (some (.int 1))) (some []))).bind g_least_burst)).bind isB) ((bin dNe (some x_some) ((lenOk (some [])).map .tuple)).bind isB)) ((((some (.bool false)).map fun d => .rt (d, x_pot)) : Option (Fl Empty (Unit) (D × List D))).map castFl) (some (.nx ()))))
noncomputable def B__law_is_cut_right (x_pot : List D) (x_row : D) (x_buckets : D) : Option (Fl (List D) Empty (D × List D)) :=
  (((consO (some x_row) (consO (some x_buckets) (some []))).bind g_through_all).bind fun v1 => (((fun ps => ((consX (liftX fun p => (bin dPlus ((consO (some x_row) (some [])).bind dLen) (some (.int 1)))) (fun t => some ([], t))) ps).bind fun q => g__law_take q.2 q.1) x_pot).bind fun v2 => (iteO (orT ((bin dNe ((consO ((consO (slO dSl (some x_row) (some none) ((some v2.1).bind fun d => (isI d).map some)) (consO (some x_buckets) (some []))).bind g_through_all) (some [])).bind dRepr) ((consO (slO dSl (some v1) (some none) ((some v2.1).bind fun d => (isI d).map some)) (some [])).bind dRepr)).bind isB) ((bin dNe ((consO ((consO (some v1) (consO (some x_buckets) (some []))).bind g_through_all) (some [])).bind dRepr) ((consO (some v1) (some [])).bind dRepr)).bind isB)) ((((some (.bool false)).map fun d => .rt (d, v2.2)) : Option (Fl Empty (Empty) (D × List D))).map castFl) ((lenOkX (fun t => ((liftX fun p => ((some x_row).bind iterD)) t).bind fun q => lcX some (fun p5 : D => (liftX fun p => some true)) (fun p5 : D => (binX dGt (fun ps => ((consX (liftX fun p => (some (.int 3))) (fun t => some ([], t))) ps).bind fun q => g__law_take q.2 q.1) (liftX fun p => (some (.int 0))))) q.1 q.2) v2.2).bind fun v4 => (((consO ((lenOk (((consO (some x_row) (consO (some ((.list v4.1))) (some []))).bind dZip2).bind (lcF (un2 some some) (fun p7 : (D × D) => ((some p7.2).bind isB)) fun p7 : (D × D) => (some p7.1)))).map .list) (some [])).bind dTuple).bind fun v6 => ((lenOk (((consO (some v1) (consO (some ((.list v4.1))) (some []))).bind dZip2).bind (lcF (un2 some some) (fun p9 : (D × D) => ((some p9.2).bind isB)) fun p9 : (D × D) => (some p9.1)))).bind fun v8 => (iteO ((((consO ((lenOk (((consO ((consO (some v6) (consO (some x_buckets) (some []))).bind g_through_all) (consO (some ((.list v8))) (some []))).bind dZip2).bind (lcF (un2 some some) (fun p11 : (D × D) => some true) fun p11 : (D × D) => (bin dLe (some p11.1) (some p11.2))))).map .list) (some [])).bind dAll).bind isB).map (!·)) ((((some (.bool false)).map fun d => .rt (d, v4.2)) : Option (Fl Empty (Empty) (D × List D))).map castFl) ((((some x_buckets).bind iterD).bind fun its => forF (L := Unit) (R := D × List D) (fun l x => (some x).bind (L1__law_is_cut_right v4.2 x_row v1 v6 l)) its ()).bind (seqLp fun l12 => (((bin dIx (some x_buckets) (some (.int 0))).bind (un2 some some)).bind fun v18 => (((tupX (consX (binX dPlus (liftX fun p => (some v18.1)) (appX dInt (consX (fun ps => ((consX (liftX fun p => (some (.int 3))) (fun t => some ([], t))) ps).bind fun q => g__law_take q.2 q.1) (fun t => some ([], t))))) (consX (appX dMax (consX (liftX fun p => (some (.int 1))) (consX (binX dSub (liftX fun p => (some v18.2)) (appX dInt (consX (fun ps => ((consX (liftX fun p => (some (.int 3))) (fun t => some ([], t))) ps).bind fun q => g__law_take q.2 q.1) (fun t => some ([], t))))) (fun t => some ([], t))))) (fun t => some ([], t))))) v4.2).bind fun v19 => (iteO (orT ((bin dNe ((consO ((consO (some x_row) (consO (bin dPlus (some x_buckets) ((lenOk (consO (some v19.1) (some []))).map .tuple)) (some []))).bind g_through_all) (some [])).bind dRepr) ((consO (some v1) (some [])).bind dRepr)).bind isB) ((bin dNe ((consO ((consO (some x_row) (consO (bin dPlus ((lenOk (consO (some v19.1) (some []))).map .tuple) (some x_buckets)) (some []))).bind g_through_all) (some [])).bind dRepr) ((consO (some v1) (some [])).bind dRepr)).bind isB)) ((((some (.bool false)).map fun d => .rt (d, v19.2)) : Option (Fl Empty (Empty) (D × List D))).map castFl) (((appX dInt (consX (fun ps => ((consX (liftX fun p => (some (.int 9000))) (fun t => some ([], t))) ps).bind fun q => g__law_take q.2 q.1) (fun t => some ([], t)))) v19.2).bind fun v21 => ((bin dEq ((consO ((consO ((consO (some x_row) (consO (some v21.1) (some []))).bind g__law_later) (consO (some x_buckets) (some []))).bind g_through_all) (some [])).bind dRepr) ((consO ((consO (some v1) (consO (some v21.1) (some []))).bind g__law_later) (some [])).bind dRepr)).map fun d => .rt (d, v21.2)))))))))))))))
noncomputable def M__law_is_cut_right (x_pot : List D) (x_row : D) (x_buckets : D) : Option (D × List D) := (B__law_is_cut_right x_pot x_row x_buckets).bind finM
noncomputable def b__law_is_cut_right (qs : List D) : List D → Option (Fl (List D) Empty (D × List D))
  | [x_row, x_buckets] => B__law_is_cut_right qs x_row x_buckets
  | _ => none
noncomputable def g__law_is_cut_right (qs ds : List D) : Option (D × List D) := (b__law_is_cut_right qs ds).bind finM
noncomputable def B__law_right (x_pot : List D) : Option (Fl (List D) Empty (D × List D)) :=
  ((three  (fun ps => ((consX (liftX fun p => (some (.int 14))) (fun t => some ([], t))) ps).bind fun q => g__law_row q.2 q.1) (fun ps => ((consX (liftX fun p => (some (.int 14))) (fun t => some ([], t))) ps).bind fun q => g__law_row q.2 q.1) (fun ps => ((fun t => some ([], t)) ps).bind fun q => g__law_bucket q.2 q.1) x_pot).bind fun v1 => (((notTX (isBX (fun ps => ((consX (liftX fun p => (some v1.1.1)) (consX (liftX fun p => (some v1.1.2.1)) (consX (liftX fun p => (some v1.1.2.2)) (fun t => some ([], t))))) ps).bind fun q => g__law_are_two_right q.2 q.1))) v1.2).bind fun q2 => if q2.1 then (((some (.bool false)).map fun d => .rt (d, q2.2)) : Option (Fl Empty (Empty) (D × List D))).map castFl else (((slX dSlT (tupX (consX (liftX fun p => (some v1.1.2.2)) (consX (fun ps => ((fun t => some ([], t)) ps).bind fun q => g__law_bucket q.2 q.1) (fun t => some ([], t))))) (fun t => some (none, t)) (bindX (binX dPlus (liftX fun p => (some (.int 1))) (fun ps => ((consX (liftX fun p => (some (.int 2))) (fun t => some ([], t))) ps).bind fun q => g__law_take q.2 q.1)) fun d => (isI d).map some)) q2.2).bind fun v3 => (((andVX (fun ps => ((consX (liftX fun p => (some v1.1.1)) (consX (liftX fun p => (some v3.1)) (fun t => some ([], t)))) ps).bind fun q => g__law_is_cut_right q.2 q.1) (andVX (liftX fun p => (bin dEq ((consO ((lenOk (some [])).map .tuple) (consO (some v3.1) (some []))).bind g_through_all) ((lenOk (some [])).map .tuple))) (liftX fun p => (bin dEq ((consO ((lenOk (some [])).map .tuple) (consO (some v1.1.2.2) (some []))).bind g_longest_wait) (some (.int 0)))))) v3.2).map fun q => .rt q))))
noncomputable def M__law_right (x_pot : List D) : Option (D × List D) := (B__law_right x_pot).bind finM
noncomputable def b__law_right (qs : List D) : List D → Option (Fl (List D) Empty (D × List D))
  | [] => B__law_right qs 
  | _ => none
noncomputable def g__law_right (qs ds : List D) : Option (D × List D) := (b__law_right qs ds).bind finM
noncomputable def B_law (x_script : D) : Option (Fl (Unit) Empty (D)) :=
  (((consO ((lenOk (((((consO (some x_script) (consO (some (.int 3)) (some []))).bind g__law_cells).map .list).bind iterD).bind (lcF some (fun p1 : D => some true) fun p1 : D => (((consO (some x_script) (consO (some p1) (some []))).bind g__law_pot).bind fun ps => (some []).bind fun ds => (g__law_right ps ds).map (·.1))))).map .list) (some [])).bind dAll).map fun d => .rt d)
noncomputable def M_law (x_script : D) : Option D := (B_law x_script).bind finP
noncomputable def b_law : List D → Option (Fl (Unit) Empty (D))
  | [x_script] => B_law x_script
  | _ => none
noncomputable def g_law (ds : List D) : Option D := (b_law ds).bind finP
end DL

set_option Elab.async false
set_option linter.all false
set_option maxRecDepth 100000
set_option maxHeartbeats 4000000
set_option autoImplicit false
namespace DL
open PySem PySem.Spec PyProof.Rows L2
def top (i : Nat) : Stmt := PySem.Challenge.pw_holesheldopen_k61_whole_arrivals_far_apa.main.body.getD i (.Pass ⟨0, 0, 0, 0⟩)
/-- what the walk asks of the part that stands written behind the top -/
structure Wd (K : PySem.W.Frag) (mg : Str → Option Value) : Prop where
  d_is_int : ∃ (f : Addr) (fd : FuncData), FunD K "is_int" "is_int" (defArgs (top 5)) (defBody (top 5)) (defScope (top 5)) [] [] f fd ∧ mg "is_int" = some (.ref f)
  d_are_ints : ∃ (f : Addr) (fd : FuncData), FunD K "are_ints" "are_ints" (defArgs (top 6)) (defBody (top 6)) (defScope (top 6)) [] [] f fd ∧ mg "are_ints" = some (.ref f)
  d_is_bucket : ∃ (f : Addr) (fd : FuncData), FunD K "is_bucket" "is_bucket" (defArgs (top 13)) (defBody (top 13)) (defScope (top 13)) [] [] f fd ∧ mg "is_bucket" = some (.ref f)
  d_are_buckets : ∃ (f : Addr) (fd : FuncData), FunD K "are_buckets" "are_buckets" (defArgs (top 14)) (defBody (top 14)) (defScope (top 14)) [] [] f fd ∧ mg "are_buckets" = some (.ref f)
  d_are_arrivals : ∃ (f : Addr) (fd : FuncData), FunD K "are_arrivals" "are_arrivals" (defArgs (top 15)) (defBody (top 15)) (defScope (top 15)) [] [] f fd ∧ mg "are_arrivals" = some (.ref f)
  d_look_at_both : ∃ (f : Addr) (fd : FuncData), FunD K "look_at_both" "look_at_both" (defArgs (top 16)) (defBody (top 16)) (defScope (top 16)) [] [] f fd ∧ mg "look_at_both" = some (.ref f)
  d_most_within : ∃ (f : Addr) (fd : FuncData), FunD K "most_within" "most_within" (defArgs (top 17)) (defBody (top 17)) (defScope (top 17)) [] [] f fd ∧ mg "most_within" = some (.ref f)
  d_told_crowd : ∃ (f : Addr) (fd : FuncData), FunD K "told_crowd" "told_crowd" (defArgs (top 18)) (defBody (top 18)) (defScope (top 18)) [] [] f fd ∧ mg "told_crowd" = some (.ref f)
  d_fits : ∃ (f : Addr) (fd : FuncData), FunD K "fits" "fits" (defArgs (top 19)) (defBody (top 19)) (defScope (top 19)) [] [] f fd ∧ mg "fits" = some (.ref f)
  d_told_held : ∃ (f : Addr) (fd : FuncData), FunD K "told_held" "told_held" (defArgs (top 20)) (defBody (top 20)) (defScope (top 20)) [] [] f fd ∧ mg "told_held" = some (.ref f)
  d_held_back : ∃ (f : Addr) (fd : FuncData), FunD K "held_back" "held_back" (defArgs (top 21)) (defBody (top 21)) (defScope (top 21)) [] [] f fd ∧ mg "held_back" = some (.ref f)
  d_longest_wait : ∃ (f : Addr) (fd : FuncData), FunD K "longest_wait" "longest_wait" (defArgs (top 22)) (defBody (top 22)) (defScope (top 22)) [] [] f fd ∧ mg "longest_wait" = some (.ref f)
  d_through_all : ∃ (f : Addr) (fd : FuncData), FunD K "through_all" "through_all" (defArgs (top 23)) (defBody (top 23)) (defScope (top 23)) [] [] f fd ∧ mg "through_all" = some (.ref f)
  d_least_burst : ∃ (f : Addr) (fd : FuncData), FunD K "least_burst" "least_burst" (defArgs (top 24)) (defBody (top 24)) (defScope (top 24)) [] [] f fd ∧ mg "least_burst" = some (.ref f)
  d__law_pot : ∃ (f : Addr) (fd : FuncData), FunD K "_law_pot" "_law_pot" (defArgs (top 26)) (defBody (top 26)) (defScope (top 26)) [] [] f fd ∧ mg "_law_pot" = some (.ref f)
  d__law_take : ∃ (f : Addr) (fd : FuncData), FunD K "_law_take" "_law_take" (defArgs (top 27)) (defBody (top 27)) (defScope (top 27)) [] [] f fd ∧ mg "_law_take" = some (.ref f)
  d__law_of : ∃ (f : Addr) (fd : FuncData), FunD K "_law_of" "_law_of" (defArgs (top 28)) (defBody (top 28)) (defScope (top 28)) [] [] f fd ∧ mg "_law_of" = some (.ref f)
  d__law_cells : ∃ (f : Addr) (fd : FuncData), FunD K "_law_cells" "_law_cells" (defArgs (top 29)) (defBody (top 29)) (defScope (top 29)) [] [] f fd ∧ mg "_law_cells" = some (.ref f)
  d__law_row : ∃ (f : Addr) (fd : FuncData), FunD K "_law_row" "_law_row" (defArgs (top 30)) (defBody (top 30)) (defScope (top 30)) [] [] f fd ∧ mg "_law_row" = some (.ref f)
  d__law_bucket : ∃ (f : Addr) (fd : FuncData), FunD K "_law_bucket" "_law_bucket" (defArgs (top 31)) (defBody (top 31)) (defScope (top 31)) [] [] f fd ∧ mg "_law_bucket" = some (.ref f)
  d__law_later : ∃ (f : Addr) (fd : FuncData), FunD K "_law_later" "_law_later" (defArgs (top 32)) (defBody (top 32)) (defScope (top 32)) [] [] f fd ∧ mg "_law_later" = some (.ref f)
  d__law_gone : ∃ (f : Addr) (fd : FuncData), FunD K "_law_gone" "_law_gone" (defArgs (top 33)) (defBody (top 33)) (defScope (top 33)) [] [] f fd ∧ mg "_law_gone" = some (.ref f)
  d__law_are_two_right : ∃ (f : Addr) (fd : FuncData), FunD K "_law_are_two_right" "_law_are_two_right" (defArgs (top 34)) (defBody (top 34)) (defScope (top 34)) [] [] f fd ∧ mg "_law_are_two_right" = some (.ref f)
  d__law_is_cut_right : ∃ (f : Addr) (fd : FuncData), FunD K "_law_is_cut_right" "_law_is_cut_right" (defArgs (top 35)) (defBody (top 35)) (defScope (top 35)) [] [] f fd ∧ mg "_law_is_cut_right" = some (.ref f)
  d__law_right : ∃ (f : Addr) (fd : FuncData), FunD K "_law_right" "_law_right" (defArgs (top 36)) (defBody (top 36)) (defScope (top 36)) [] [] f fd ∧ mg "_law_right" = some (.ref f)
  d_law : ∃ (f : Addr) (fd : FuncData), FunD K "law" "law" (defArgs (top 37)) (defBody (top 37)) (defScope (top 37)) [] [] f fd ∧ mg "law" = some (.ref f)
  n_abs : mg "abs" = none
  n_all : mg "all" = none
  n_bool : mg "bool" = none
  n_enumerate : mg "enumerate" = none
  n_int : mg "int" = none
  n_isinstance : mg "isinstance" = none
  n_len : mg "len" = none
  n_list : mg "list" = none
  n_max : mg "max" = none
  n_min : mg "min" = none
  n_range : mg "range" = none
  n_repr : mg "repr" = none
  n_sum : mg "sum" = none
  n_tuple : mg "tuple" = none
  n_zip : mg "zip" = none
  c_CROWD : ∃ t, mg "CROWD" = some (.str "crowd" t)
  c_FITS : ∃ t, mg "FITS" = some (.str "fits" t)
  c_MOST_BUCKETS : ∃ t, mg "MOST_BUCKETS" = some (.int 6 t)
  c_MOST_LETTERS : ∃ t, mg "MOST_LETTERS" = some (.int 200 t)
  c_MOST_TICK : ∃ t, mg "MOST_TICK" = some (.int 1000000 t)
section
variable {P : Program} {w : World} {K : PySem.W.Frag} {mg : Str → Option Value} {base : Heap}
abbrev nm_is_int : List Str := ["value", "low", "high"]
theorem nd_is_int : nm_is_int.Nodup := by decide +kernel
theorem sc_is_int : FnScope nm_is_int ["value", "low", "high"] (defScope (top 5)) := C8.fnScope_by (by decide +kernel)
theorem w_is_int (W : Wd K mg) {f : Addr} {cdv : Value} {A : Around} {outer : List Env} {s : Shared} {H : Hp} (room : Room 0 (A.deeper (envOfC "is_int" (defScope (top 5)) s.heap.objs.size f cdv))) (gd : A.guards = some []) (x_value : D) (x_low : D) (x_high : D) :
    DB (BX P w K mg base nm_is_int "is_int" (defScope (top 5)) f cdv A outer s H) ⟨H, []⟩ (fun _ : Unit => [.any, .any, .any]) GE (RKp K H) [.imm x_value, .imm x_low, .imm x_high] (defBody (top 5)) (B_is_int x_value x_low x_high) := by
  unfold B_is_int
  exact db_ret (de_and (de_isi W.n_isinstance W.n_int (DE.w (de_var 0))) (de_and (de_not (de_isi W.n_isinstance W.n_bool (DE.w (de_var 0)))) (de_one (de_chain (od_le (u64 room)) (od_le (u64 room)) (DE.w (de_var 1)) (DE.w (de_var 0)) (DE.w (de_var 2)))))) rkp
theorem F_is_int (W : Wd K mg) : CalG P w K mg base 1 "is_int" (spP K g_is_int) :=
  calP W.d_is_int sc_is_int (fun _ _ _ _ _ _ us hl => match us, hl with | [_, _, _], _ => rfl) (by decide) b_is_int (fun ds o h => by unfold b_is_int at h; split at h <;> first | rfl | cases h)
    fun f cdv A outer s H ds hl room gd => match ds, hl with | [x_value, x_low, x_high], _ => w_is_int W room gd x_value x_low x_high
abbrev nm_are_ints : List Str := ["value", "low", "high", "one"]
theorem nd_are_ints : nm_are_ints.Nodup := by decide +kernel
theorem sc_are_ints : FnScope nm_are_ints ["value", "low", "high"] (defScope (top 6)) := C8.fnScope_by (by decide +kernel)
theorem w_are_ints (W : Wd K mg) {f : Addr} {cdv : Value} {A : Around} {outer : List Env} {s : Shared} {H : Hp} (room : Room 1 (A.deeper (envOfC "are_ints" (defScope (top 6)) s.heap.objs.size f cdv))) (gd : A.guards = some []) (x_value : D) (x_low : D) (x_high : D) :
    DB (BX P w K mg base nm_are_ints "are_ints" (defScope (top 6)) f cdv A outer s H) ⟨H, []⟩ (fun _ : Unit => [.any, .any, .any, .any]) GE (RKp K H) [.imm x_value, .imm x_low, .imm x_high, .any] (defBody (top 6)) (B_are_ints x_value x_low x_high) := by
  unfold B_are_ints
  exact db_ret (de_and (de_isi W.n_isinstance W.n_tuple (DE.w (de_var 0))) (de_one (de_callB (cd_all rfl) W.n_all (daw_cons (DE.w (DF.e (df_lc [("one", 3)] rfl nd_are_ints (di_seq (de_var 0)) (fun _ _ _ _ _ => (dg_name 3 nd_are_ints)) (fun _ _ _ _ _ p1 => dts_nil) (fun _ _ _ _ _ p1 => (de_call (F_is_int W) (room.mono (by decide : 1 ≤ 1)) gd (da_cons (de_var 3) (da_cons (de_var 1) (da_cons (de_var 2) da_nil))) (hs := by exact ⟨rfl, rfl, rfl, trivial⟩)))))) daw_nil) (hs := by exact ⟨rfl, trivial⟩)))) rkp
theorem F_are_ints (W : Wd K mg) : CalG P w K mg base 2 "are_ints" (spP K g_are_ints) :=
  calP W.d_are_ints sc_are_ints (fun _ _ _ _ _ _ us hl => match us, hl with | [_, _, _], _ => rfl) (by decide) b_are_ints (fun ds o h => by unfold b_are_ints at h; split at h <;> first | rfl | cases h)
    fun f cdv A outer s H ds hl room gd => match ds, hl with | [x_value, x_low, x_high], _ => w_are_ints W room gd x_value x_low x_high
abbrev nm_is_bucket : List Str := ["value"]
theorem nd_is_bucket : nm_is_bucket.Nodup := by decide +kernel
theorem sc_is_bucket : FnScope nm_is_bucket ["value"] (defScope (top 13)) := C8.fnScope_by (by decide +kernel)
theorem w_is_bucket (W : Wd K mg) {f : Addr} {cdv : Value} {A : Around} {outer : List Env} {s : Shared} {H : Hp} (room : Room 2 (A.deeper (envOfC "is_bucket" (defScope (top 13)) s.heap.objs.size f cdv))) (gd : A.guards = some []) (x_value : D) :
    DB (BX P w K mg base nm_is_bucket "is_bucket" (defScope (top 13)) f cdv A outer s H) ⟨H, []⟩ (fun _ : Unit => [.any]) GE (RKp K H) [.imm x_value] (defBody (top 13)) (B_is_bucket x_value) := by
  unfold B_is_bucket
  exact db_ret (de_and (de_call (F_are_ints W) (room.mono (by decide : 2 ≤ 2)) gd (da_cons (de_var 0) (da_cons de_int (da_cons (de_gint W.c_MOST_TICK) da_nil))) (hs := by exact ⟨rfl, rfl, rfl, trivial⟩)) (de_one (de_cmp (od_eq (u64 room)) (DE.w (de_callB cd_len W.n_len (daw_cons (DE.w (de_var 0)) daw_nil) (hs := by exact ⟨rfl, trivial⟩))) (DE.w de_int)))) rkp
theorem F_is_bucket (W : Wd K mg) : CalG P w K mg base 3 "is_bucket" (spP K g_is_bucket) :=
  calP W.d_is_bucket sc_is_bucket (fun _ _ _ _ _ _ us hl => match us, hl with | [_], _ => rfl) (by decide) b_is_bucket (fun ds o h => by unfold b_is_bucket at h; split at h <;> first | rfl | cases h)
    fun f cdv A outer s H ds hl room gd => match ds, hl with | [x_value], _ => w_is_bucket W room gd x_value
abbrev nm_are_buckets : List Str := ["value", "one"]
theorem nd_are_buckets : nm_are_buckets.Nodup := by decide +kernel
theorem sc_are_buckets : FnScope nm_are_buckets ["value"] (defScope (top 14)) := C8.fnScope_by (by decide +kernel)
theorem w_are_buckets (W : Wd K mg) {f : Addr} {cdv : Value} {A : Around} {outer : List Env} {s : Shared} {H : Hp} (room : Room 3 (A.deeper (envOfC "are_buckets" (defScope (top 14)) s.heap.objs.size f cdv))) (gd : A.guards = some []) (x_value : D) :
    DB (BX P w K mg base nm_are_buckets "are_buckets" (defScope (top 14)) f cdv A outer s H) ⟨H, []⟩ (fun _ : Unit => [.any, .any]) GE (RKp K H) [.imm x_value, .any] (defBody (top 14)) (B_are_buckets x_value) := by
  unfold B_are_buckets
  exact db_ret (de_and (de_isi W.n_isinstance W.n_tuple (DE.w (de_var 0))) (de_and (de_chain (od_le (u64 room)) (od_le (u64 room)) (DE.w de_int) (DE.w (de_callB cd_len W.n_len (daw_cons (DE.w (de_var 0)) daw_nil) (hs := by exact ⟨rfl, trivial⟩))) (DE.w (de_gint W.c_MOST_BUCKETS))) (de_one (de_callB (cd_all rfl) W.n_all (daw_cons (DE.w (DF.e (df_lc [("one", 1)] rfl nd_are_buckets (di_seq (de_var 0)) (fun _ _ _ _ _ => (dg_name 1 nd_are_buckets)) (fun _ _ _ _ _ p1 => dts_nil) (fun _ _ _ _ _ p1 => (de_call (F_is_bucket W) (room.mono (by decide : 3 ≤ 3)) gd (da_cons (de_var 1) da_nil) (hs := by exact ⟨rfl, trivial⟩)))))) daw_nil) (hs := by exact ⟨rfl, trivial⟩))))) rkp
theorem F_are_buckets (W : Wd K mg) : CalG P w K mg base 4 "are_buckets" (spP K g_are_buckets) :=
  calP W.d_are_buckets sc_are_buckets (fun _ _ _ _ _ _ us hl => match us, hl with | [_], _ => rfl) (by decide) b_are_buckets (fun ds o h => by unfold b_are_buckets at h; split at h <;> first | rfl | cases h)
    fun f cdv A outer s H ds hl room gd => match ds, hl with | [x_value], _ => w_are_buckets W room gd x_value
abbrev nm_are_arrivals : List Str := ["value", "one", "other"]
theorem nd_are_arrivals : nm_are_arrivals.Nodup := by decide +kernel
theorem sc_are_arrivals : FnScope nm_are_arrivals ["value"] (defScope (top 15)) := C8.fnScope_by (by decide +kernel)
theorem w_are_arrivals (W : Wd K mg) {f : Addr} {cdv : Value} {A : Around} {outer : List Env} {s : Shared} {H : Hp} (room : Room 2 (A.deeper (envOfC "are_arrivals" (defScope (top 15)) s.heap.objs.size f cdv))) (gd : A.guards = some []) (x_value : D) :
    DB (BX P w K mg base nm_are_arrivals "are_arrivals" (defScope (top 15)) f cdv A outer s H) ⟨H, []⟩ (fun _ : Unit => [.any, .any, .any]) GE (RKp K H) [.imm x_value, .any, .any] (defBody (top 15)) (B_are_arrivals x_value) := by
  unfold B_are_arrivals
  refine db_ifr (DTw.t (dw_or (dt_not (dt_val (de_call (F_are_ints W) (room.mono (by decide : 2 ≤ 2)) gd (da_cons (de_var 0) (da_cons de_int (da_cons (de_gint W.c_MOST_TICK) da_nil))) (hs := by exact ⟨rfl, rfl, rfl, trivial⟩)))) (dw_or1 (dt_cmp (od_gt (u64 room)) (DE.w (de_callB cd_len W.n_len (daw_cons (DE.w (de_var 0)) daw_nil) (hs := by exact ⟨rfl, trivial⟩))) (DE.w (de_gint W.c_MOST_LETTERS)))))) ?_ ?_
  · exact db_ret de_bool rkp
  exact db_ret (de_callB (cd_all rfl) W.n_all (daw_cons (DE.w (DF.e (df_lc [("one", 1), ("other", 2)] rfl nd_are_arrivals (di_zip2 W.n_zip (da_cons (de_var 0) (da_cons (de_sl (de_var 0) (.yes de_int) .no) da_nil))) (fun _ _ _ _ _ => (dg_tup2 rfl (dg_name 1 nd_are_arrivals) fun _ => (dg_name 2 nd_are_arrivals))) (fun _ _ _ _ _ p2 => dts_nil) (fun _ _ _ _ _ p2 => (de_cmp (od_le (u64 room)) (DE.w (de_var 1)) (DE.w (de_var 2))))))) daw_nil) (hs := by exact ⟨rfl, trivial⟩)) rkp
theorem F_are_arrivals (W : Wd K mg) : CalG P w K mg base 3 "are_arrivals" (spP K g_are_arrivals) :=
  calP W.d_are_arrivals sc_are_arrivals (fun _ _ _ _ _ _ us hl => match us, hl with | [_], _ => rfl) (by decide) b_are_arrivals (fun ds o h => by unfold b_are_arrivals at h; split at h <;> first | rfl | cases h)
    fun f cdv A outer s H ds hl room gd => match ds, hl with | [x_value], _ => w_are_arrivals W room gd x_value
abbrev nm_look_at_both : List Str := ["arrivals", "bucket"]
theorem nd_look_at_both : nm_look_at_both.Nodup := by decide +kernel
theorem sc_look_at_both : FnScope nm_look_at_both ["arrivals", "bucket"] (defScope (top 16)) := C8.fnScope_by (by decide +kernel)
theorem w_look_at_both (W : Wd K mg) {f : Addr} {cdv : Value} {A : Around} {outer : List Env} {s : Shared} {H : Hp} (room : Room 3 (A.deeper (envOfC "look_at_both" (defScope (top 16)) s.heap.objs.size f cdv))) (gd : A.guards = some []) (x_arrivals : D) (x_bucket : D) :
    DB (BX P w K mg base nm_look_at_both "look_at_both" (defScope (top 16)) f cdv A outer s H) ⟨H, []⟩ (fun _ : Unit => [.any, .any]) GE (RKp K H) [.imm x_arrivals, .imm x_bucket] (defBody (top 16)) (B_look_at_both x_arrivals x_bucket) := by
  unfold B_look_at_both
  refine db_ifr (dt_not (dt_val (de_call (F_are_arrivals W) (room.mono (by decide : 3 ≤ 3)) gd (da_cons (de_var 0) da_nil) (hs := by exact ⟨rfl, trivial⟩)))) ?_ ?_
  · exact db_none
  refine db_ifr (dt_not (dt_val (de_call (F_is_bucket W) (room.mono (by decide : 3 ≤ 3)) gd (da_cons (de_var 1) da_nil) (hs := by exact ⟨rfl, trivial⟩)))) ?_ ?_
  · exact db_none
  exact db_nil () ⟨.inr rfl, .inr rfl, trivial⟩
theorem F_look_at_both (W : Wd K mg) : CalG P w K mg base 4 "look_at_both" (spP K g_look_at_both) :=
  calP W.d_look_at_both sc_look_at_both (fun _ _ _ _ _ _ us hl => match us, hl with | [_, _], _ => rfl) (by decide) b_look_at_both (fun ds o h => by unfold b_look_at_both at h; split at h <;> first | rfl | cases h)
    fun f cdv A outer s H ds hl room gd => match ds, hl with | [x_arrivals, x_bucket], _ => w_look_at_both W room gd x_arrivals x_bucket
abbrev nm_most_within : List Str := ["bucket", "ticks"]
theorem nd_most_within : nm_most_within.Nodup := by decide +kernel
theorem sc_most_within : FnScope nm_most_within ["bucket", "ticks"] (defScope (top 17)) := C8.fnScope_by (by decide +kernel)
theorem w_most_within (W : Wd K mg) {f : Addr} {cdv : Value} {A : Around} {outer : List Env} {s : Shared} {H : Hp} (room : Room 0 (A.deeper (envOfC "most_within" (defScope (top 17)) s.heap.objs.size f cdv))) (gd : A.guards = some []) (x_bucket : D) (x_ticks : D) :
    DB (BX P w K mg base nm_most_within "most_within" (defScope (top 17)) f cdv A outer s H) ⟨H, []⟩ (fun _ : Unit => [.any, .any]) GE (RKp K H) [.imm x_bucket, .imm x_ticks] (defBody (top 17)) (B_most_within x_bucket x_ticks) := by
  unfold B_most_within
  exact db_ret (de_plus (DE.w (de_ix (DE.w (de_var 0)) (DE.w de_int))) (DE.w (de_op od_fdiv (DE.w (de_var 1)) (DE.w (de_ix (DE.w (de_var 0)) (DE.w de_int)))))) rkp
theorem F_most_within (W : Wd K mg) : CalG P w K mg base 1 "most_within" (spP K g_most_within) :=
  calP W.d_most_within sc_most_within (fun _ _ _ _ _ _ us hl => match us, hl with | [_, _], _ => rfl) (by decide) b_most_within (fun ds o h => by unfold b_most_within at h; split at h <;> first | rfl | cases h)
    fun f cdv A outer s H ds hl room gd => match ds, hl with | [x_bucket, x_ticks], _ => w_most_within W room gd x_bucket x_ticks
abbrev nm_told_crowd : List Str := ["arrivals", "bucket", "last", "end", "first"]
theorem nd_told_crowd : nm_told_crowd.Nodup := by decide +kernel
theorem sc_told_crowd : FnScope nm_told_crowd ["arrivals", "bucket"] (defScope (top 18)) := C8.fnScope_by (by decide +kernel)
theorem w_told_crowd (W : Wd K mg) {f : Addr} {cdv : Value} {A : Around} {outer : List Env} {s : Shared} {H : Hp} (room : Room 1 (A.deeper (envOfC "told_crowd" (defScope (top 18)) s.heap.objs.size f cdv))) (gd : A.guards = some []) (x_arrivals : D) (x_bucket : D) :
    DB (BX P w K mg base nm_told_crowd "told_crowd" (defScope (top 18)) f cdv A outer s H) ⟨H, []⟩ (fun _ : Unit => [.any, .any, .any, .any, .any]) GE (RKp K H) [.imm x_arrivals, .imm x_bucket, .any, .any, .any] (defBody (top 18)) (B_told_crowd x_arrivals x_bucket) := by
  unfold B_told_crowd
  refine db_for (P := (D × D)) (fun l1 : Unit => [.imm x_arrivals, .imm x_bucket, .any, .any, .any]) () rfl rfl (di_enum W.n_enumerate (de_var 0)) ⟨.inl rfl, .inl rfl, .inr rfl, .inr rfl, .inr rfl, trivial⟩ (fun l1 => (dg_tup2 rfl (dg_name 2 nd_told_crowd) fun _ => (dg_name 3 nd_told_crowd))) (fun l1 p2 => ?_) fun l1 => ?_
  · unfold L2_told_crowd
    refine db_for (P := D) (fun l7 : Unit => [.imm x_arrivals, .imm x_bucket, .imm p2.1, .imm p2.2, .any]) () rfl rfl (di_range1 W.n_range (de_plus (DE.w (de_var 2)) (DE.w de_int))) ⟨.inl rfl, .inl rfl, .inl rfl, .inl rfl, .inr rfl, trivial⟩ (fun l7 => (dg_name 4 nd_told_crowd)) (fun l7 p8 => ?_) fun l7 => ?_
    · unfold L1_told_crowd
      refine db_ifr (dt_cmp (od_gt (u64 room)) (DE.w (de_plus (DE.w (de_op od_sub (DE.w (de_var 2)) (DE.w (de_var 4)))) (DE.w de_int))) (DE.w (de_call (F_most_within W) (room.mono (by decide : 1 ≤ 1)) gd (da_cons (de_var 1) (da_cons (de_op od_sub (DE.w (de_var 3)) (DE.w (de_ix (DE.w (de_var 0)) (DE.w (de_var 4))))) da_nil)) (hs := by exact ⟨rfl, rfl, trivial⟩)))) ?_ ?_
      · exact db_ret (de_tup (da_cons (de_var 4) (da_cons (de_var 2) da_nil)) (hs := by exact ⟨rfl, rfl, trivial⟩)) rkp
      exact db_nil () ⟨.inl rfl, .inl rfl, .inl rfl, .inl rfl, .inr rfl, trivial⟩
    exact db_nil () ⟨.inl rfl, .inl rfl, .inr rfl, .inr rfl, .inr rfl, trivial⟩
  exact db_ret de_none rkp
theorem F_told_crowd (W : Wd K mg) : CalG P w K mg base 2 "told_crowd" (spP K g_told_crowd) :=
  calP W.d_told_crowd sc_told_crowd (fun _ _ _ _ _ _ us hl => match us, hl with | [_, _], _ => rfl) (by decide) b_told_crowd (fun ds o h => by unfold b_told_crowd at h; split at h <;> first | rfl | cases h)
    fun f cdv A outer s H ds hl room gd => match ds, hl with | [x_arrivals, x_bucket], _ => w_told_crowd W room gd x_arrivals x_bucket
abbrev nm_fits : List Str := ["arrivals", "bucket", "crowd"]
theorem nd_fits : nm_fits.Nodup := by decide +kernel
theorem sc_fits : FnScope nm_fits ["arrivals", "bucket"] (defScope (top 19)) := C8.fnScope_by (by decide +kernel)
theorem w_fits (W : Wd K mg) {f : Addr} {cdv : Value} {A : Around} {outer : List Env} {s : Shared} {H : Hp} (room : Room 4 (A.deeper (envOfC "fits" (defScope (top 19)) s.heap.objs.size f cdv))) (gd : A.guards = some []) (x_arrivals : D) (x_bucket : D) :
    DB (BX P w K mg base nm_fits "fits" (defScope (top 19)) f cdv A outer s H) ⟨H, []⟩ (fun _ : Unit => [.any, .any, .any]) GE (RKp K H) [.imm x_arrivals, .imm x_bucket, .any] (defBody (top 19)) (B_fits x_arrivals x_bucket) := by
  unfold B_fits
  refine db_expr (de_call (F_look_at_both W) (room.mono (by decide : 4 ≤ 4)) gd (da_cons (de_var 0) (da_cons (de_var 1) da_nil)) (hs := by exact ⟨rfl, rfl, trivial⟩)) ?_
  refine db_asg 2 nd_fits (de_call (F_told_crowd W) (room.mono (by decide : 2 ≤ 4)) gd (da_cons (de_var 0) (da_cons (de_var 1) da_nil)) (hs := by exact ⟨rfl, rfl, trivial⟩)) fun v1 => ?_
  exact db_ret (de_ite (dt_cmp od_is (DE.w (de_var 2)) (DE.w de_none)) (de_tup (da_cons (de_gstr W.c_FITS) da_nil) (hs := by exact ⟨rfl, trivial⟩)) (de_tupS (das_cons (de_gstr W.c_CROWD) (das_star (DE.w (de_var 2)) das_nil)))) rkp
theorem F_fits (W : Wd K mg) : CalG P w K mg base 5 "fits" (spP K g_fits) :=
  calP W.d_fits sc_fits (fun _ _ _ _ _ _ us hl => match us, hl with | [_, _], _ => rfl) (by decide) b_fits (fun ds o h => by unfold b_fits at h; split at h <;> first | rfl | cases h)
    fun f cdv A outer s H ds hl room gd => match ds, hl with | [x_arrivals, x_bucket], _ => w_fits W room gd x_arrivals x_bucket
abbrev nm_told_held : List Str := ["arrivals", "bucket", "burst", "every", "found", "at", "tick", "here", "first", "many"]
theorem nd_told_held : nm_told_held.Nodup := by decide +kernel
theorem sc_told_held : FnScope nm_told_held ["arrivals", "bucket"] (defScope (top 20)) := C8.fnScope_by (by decide +kernel)
theorem w_told_held (W : Wd K mg) {f : Addr} {cdv : Value} {A : Around} {outer : List Env} {s : Shared} {H : Hp} (room : Room 0 (A.deeper (envOfC "told_held" (defScope (top 20)) s.heap.objs.size f cdv))) (gd : A.guards = some []) (x_arrivals : D) (x_bucket : D) :
    DB (BX P w K mg base nm_told_held "told_held" (defScope (top 20)) f cdv A outer s H) ⟨H, []⟩ (fun _ : Unit => [.any, .any, .any, .any, .any, .any, .any, .any, .any, .any]) GE (RKp K H) [.imm x_arrivals, .imm x_bucket, .any, .any, .any, .any, .any, .any, .any, .any] (defBody (top 20)) (B_told_held x_arrivals x_bucket) := by
  unfold B_told_held
  refine db_unp (de_var 1) (dg_tup2 rfl (dg_name 2 nd_told_held) fun _ => (dg_name 3 nd_told_held)) fun v1 => ?_
  refine db_asgF 4 nd_told_held (df_lst da_nil (hs := by exact trivial)) fun v2 => ?_
  refine db_for (P := (D × D)) (fun l3 : List D => [.imm x_arrivals, .imm x_bucket, .imm v1.1, .imm v1.2, .own l3, .any, .any, .any, .any, .any]) v2 rfl rfl (di_enum W.n_enumerate (de_var 0)) ⟨.inl rfl, .inl rfl, .inl rfl, .inl rfl, .inl rfl, .inr rfl, .inr rfl, .inr rfl, .inr rfl, .inr rfl, trivial⟩ (fun l3 => (dg_tup2 rfl (dg_name 5 nd_told_held) fun _ => (dg_name 6 nd_told_held))) (fun l3 p4 => ?_) fun l3 => ?_
  · unfold L2_told_held
    refine db_asg 7 nd_told_held (de_ite (dt_cmp (od_ne (u64 room)) (dw_own 4) (DE.w (DF.e (df_lst da_nil (hs := by exact trivial))))) (de_callB (cd_max rfl (u100 room)) W.n_max (daw_cons (DE.w (de_var 6)) (daw_cons (DE.w (de_ix (dw_own 4) (DE.w (de_un ud_neg de_int)))) daw_nil)) (hs := by exact ⟨rfl, rfl, trivial⟩)) (de_var 6)) fun v19 => ?_
    refine db_for (P := D) (fun l20 : D => [.imm x_arrivals, .imm x_bucket, .imm v1.1, .imm v1.2, .own l3, .imm p4.1, .imm p4.2, .imm l20, .any, .any]) v19 rfl rfl (di_range1 W.n_range (de_var 5)) ⟨.inl rfl, .inl rfl, .inl rfl, .inl rfl, .inl rfl, .inl rfl, .inl rfl, .inl rfl, .inr rfl, .inr rfl, trivial⟩ (fun l20 => (dg_name 8 nd_told_held)) (fun l20 p21 => ?_) fun l20 => ?_
    · unfold L1_told_held
      refine db_asg 9 nd_told_held (de_op od_sub (DE.w (de_plus (DE.w (de_op od_sub (DE.w (de_var 5)) (DE.w (de_var 8)))) (DE.w de_int))) (DE.w (de_var 2))) fun v27 => ?_
      refine db_if (fun n30 : D => [.imm x_arrivals, .imm x_bucket, .imm v1.1, .imm v1.2, .own l3, .imm p4.1, .imm p4.2, .imm n30, .imm p21, .imm v27]) (dt_cmp (od_gt (u64 room)) (DE.w (de_var 9)) (DE.w de_int)) ?_ ?_ fun n30 => ?_
      · refine db_asg 7 nd_told_held (de_callB (cd_max rfl (u100 room)) W.n_max (daw_cons (DE.w (de_var 7)) (daw_cons (DE.w (de_plus (DE.w (de_ix (dw_own 4) (DE.w (de_var 8)))) (DE.w (de_op od_mul (DE.w (de_var 9)) (DE.w (de_var 3)))))) daw_nil)) (hs := by exact ⟨rfl, rfl, trivial⟩)) fun v31 => ?_
        exact db_nil v31 ⟨.inl rfl, .inl rfl, .inl rfl, .inl rfl, .inl rfl, .inl rfl, .inl rfl, .inl rfl, .inl rfl, .inl rfl, trivial⟩
      · exact db_nil l20 ⟨.inl rfl, .inl rfl, .inl rfl, .inl rfl, .inl rfl, .inl rfl, .inl rfl, .inl rfl, .inl rfl, .inl rfl, trivial⟩
      exact db_nil n30 ⟨.inl rfl, .inl rfl, .inl rfl, .inl rfl, .inl rfl, .inl rfl, .inl rfl, .inl rfl, .inr rfl, .inr rfl, trivial⟩
    refine db_append 4 rfl (de_var 7) fun v32 => ?_
    exact db_nil v32 ⟨.inl rfl, .inl rfl, .inl rfl, .inl rfl, .inl rfl, .inr rfl, .inr rfl, .inr rfl, .inr rfl, .inr rfl, trivial⟩
  exact db_ret (de_callT cd_tuple W.n_tuple (daw_cons (dw_own 4) daw_nil) (hs := by exact ⟨rfl, trivial⟩)) rkp
theorem F_told_held (W : Wd K mg) : CalG P w K mg base 1 "told_held" (spP K g_told_held) :=
  calP W.d_told_held sc_told_held (fun _ _ _ _ _ _ us hl => match us, hl with | [_, _], _ => rfl) (by decide) b_told_held (fun ds o h => by unfold b_told_held at h; split at h <;> first | rfl | cases h)
    fun f cdv A outer s H ds hl room gd => match ds, hl with | [x_arrivals, x_bucket], _ => w_told_held W room gd x_arrivals x_bucket
abbrev nm_held_back : List Str := ["arrivals", "bucket"]
theorem nd_held_back : nm_held_back.Nodup := by decide +kernel
theorem sc_held_back : FnScope nm_held_back ["arrivals", "bucket"] (defScope (top 21)) := C8.fnScope_by (by decide +kernel)
theorem w_held_back (W : Wd K mg) {f : Addr} {cdv : Value} {A : Around} {outer : List Env} {s : Shared} {H : Hp} (room : Room 4 (A.deeper (envOfC "held_back" (defScope (top 21)) s.heap.objs.size f cdv))) (gd : A.guards = some []) (x_arrivals : D) (x_bucket : D) :
    DB (BX P w K mg base nm_held_back "held_back" (defScope (top 21)) f cdv A outer s H) ⟨H, []⟩ (fun _ : Unit => [.any, .any]) GE (RKp K H) [.imm x_arrivals, .imm x_bucket] (defBody (top 21)) (B_held_back x_arrivals x_bucket) := by
  unfold B_held_back
  refine db_expr (de_call (F_look_at_both W) (room.mono (by decide : 4 ≤ 4)) gd (da_cons (de_var 0) (da_cons (de_var 1) da_nil)) (hs := by exact ⟨rfl, rfl, trivial⟩)) ?_
  exact db_ret (de_call (F_told_held W) (room.mono (by decide : 1 ≤ 4)) gd (da_cons (de_var 0) (da_cons (de_var 1) da_nil)) (hs := by exact ⟨rfl, rfl, trivial⟩)) rkp
theorem F_held_back (W : Wd K mg) : CalG P w K mg base 5 "held_back" (spP K g_held_back) :=
  calP W.d_held_back sc_held_back (fun _ _ _ _ _ _ us hl => match us, hl with | [_, _], _ => rfl) (by decide) b_held_back (fun ds o h => by unfold b_held_back at h; split at h <;> first | rfl | cases h)
    fun f cdv A outer s H ds hl room gd => match ds, hl with | [x_arrivals, x_bucket], _ => w_held_back W room gd x_arrivals x_bucket
abbrev nm_longest_wait : List Str := ["arrivals", "bucket", "soon", "late"]
theorem nd_longest_wait : nm_longest_wait.Nodup := by decide +kernel
theorem sc_longest_wait : FnScope nm_longest_wait ["arrivals", "bucket"] (defScope (top 22)) := C8.fnScope_by (by decide +kernel)
theorem w_longest_wait (W : Wd K mg) {f : Addr} {cdv : Value} {A : Around} {outer : List Env} {s : Shared} {H : Hp} (room : Room 4 (A.deeper (envOfC "longest_wait" (defScope (top 22)) s.heap.objs.size f cdv))) (gd : A.guards = some []) (x_arrivals : D) (x_bucket : D) :
    DB (BX P w K mg base nm_longest_wait "longest_wait" (defScope (top 22)) f cdv A outer s H) ⟨H, []⟩ (fun _ : Unit => [.any, .any, .any, .any]) GE (RKp K H) [.imm x_arrivals, .imm x_bucket, .any, .any] (defBody (top 22)) (B_longest_wait x_arrivals x_bucket) := by
  unfold B_longest_wait
  refine db_expr (de_call (F_look_at_both W) (room.mono (by decide : 4 ≤ 4)) gd (da_cons (de_var 0) (da_cons (de_var 1) da_nil)) (hs := by exact ⟨rfl, rfl, trivial⟩)) ?_
  exact db_ret (de_callB (cd_max rfl (u100 room)) W.n_max (daw_cons (DE.w (DF.e (df_lstS (das_cons de_int (das_star (DE.w (DF.e (df_lc [("soon", 2), ("late", 3)] rfl nd_longest_wait (di_zip2 W.n_zip (da_cons (de_var 0) (da_cons (de_call (F_told_held W) (room.mono (by decide : 1 ≤ 4)) gd (da_cons (de_var 0) (da_cons (de_var 1) da_nil)) (hs := by exact ⟨rfl, rfl, trivial⟩)) da_nil))) (fun _ _ _ _ _ => (dg_tup2 rfl (dg_name 2 nd_longest_wait) fun _ => (dg_name 3 nd_longest_wait))) (fun _ _ _ _ _ p1 => dts_nil) (fun _ _ _ _ _ p1 => (de_op od_sub (DE.w (de_var 3)) (DE.w (de_var 2))))))) das_nil))))) daw_nil) (hs := by exact ⟨rfl, trivial⟩)) rkp
theorem F_longest_wait (W : Wd K mg) : CalG P w K mg base 5 "longest_wait" (spP K g_longest_wait) :=
  calP W.d_longest_wait sc_longest_wait (fun _ _ _ _ _ _ us hl => match us, hl with | [_, _], _ => rfl) (by decide) b_longest_wait (fun ds o h => by unfold b_longest_wait at h; split at h <;> first | rfl | cases h)
    fun f cdv A outer s H ds hl room gd => match ds, hl with | [x_arrivals, x_bucket], _ => w_longest_wait W room gd x_arrivals x_bucket
abbrev nm_through_all : List Str := ["arrivals", "buckets", "bucket"]
theorem nd_through_all : nm_through_all.Nodup := by decide +kernel
theorem sc_through_all : FnScope nm_through_all ["arrivals", "buckets"] (defScope (top 23)) := C8.fnScope_by (by decide +kernel)
theorem w_through_all (W : Wd K mg) {f : Addr} {cdv : Value} {A : Around} {outer : List Env} {s : Shared} {H : Hp} (room : Room 4 (A.deeper (envOfC "through_all" (defScope (top 23)) s.heap.objs.size f cdv))) (gd : A.guards = some []) (x_arrivals : D) (x_buckets : D) :
    DB (BX P w K mg base nm_through_all "through_all" (defScope (top 23)) f cdv A outer s H) ⟨H, []⟩ (fun _ : Unit => [.any, .any, .any]) GE (RKp K H) [.imm x_arrivals, .imm x_buckets, .any] (defBody (top 23)) (B_through_all x_arrivals x_buckets) := by
  unfold B_through_all
  refine db_ifr (dt_not (dt_val (de_call (F_are_arrivals W) (room.mono (by decide : 3 ≤ 4)) gd (da_cons (de_var 0) da_nil) (hs := by exact ⟨rfl, trivial⟩)))) ?_ ?_
  · exact db_none
  refine db_ifr (dt_not (dt_val (de_call (F_are_buckets W) (room.mono (by decide : 4 ≤ 4)) gd (da_cons (de_var 1) da_nil) (hs := by exact ⟨rfl, trivial⟩)))) ?_ ?_
  · exact db_none
  refine db_for (P := D) (fun l3 : D => [.imm l3, .imm x_buckets, .any]) x_arrivals rfl rfl (di_seq (de_var 1)) ⟨.inl rfl, .inl rfl, .inr rfl, trivial⟩ (fun l3 => (dg_name 2 nd_through_all)) (fun l3 p4 => ?_) fun l3 => ?_
  · unfold L1_through_all
    refine db_asg 0 nd_through_all (de_call (F_told_held W) (room.mono (by decide : 1 ≤ 4)) gd (da_cons (de_var 0) (da_cons (de_var 2) da_nil)) (hs := by exact ⟨rfl, rfl, trivial⟩)) fun v6 => ?_
    exact db_nil v6 ⟨.inl rfl, .inl rfl, .inr rfl, trivial⟩
  exact db_ret (de_var 0) rkp
theorem F_through_all (W : Wd K mg) : CalG P w K mg base 5 "through_all" (spP K g_through_all) :=
  calP W.d_through_all sc_through_all (fun _ _ _ _ _ _ us hl => match us, hl with | [_, _], _ => rfl) (by decide) b_through_all (fun ds o h => by unfold b_through_all at h; split at h <;> first | rfl | cases h)
    fun f cdv A outer s H ds hl room gd => match ds, hl with | [x_arrivals, x_buckets], _ => w_through_all W room gd x_arrivals x_buckets
abbrev nm_least_burst : List Str := ["arrivals", "every", "found", "last", "end", "first"]
theorem nd_least_burst : nm_least_burst.Nodup := by decide +kernel
theorem sc_least_burst : FnScope nm_least_burst ["arrivals", "every"] (defScope (top 24)) := C8.fnScope_by (by decide +kernel)
theorem w_least_burst (W : Wd K mg) {f : Addr} {cdv : Value} {A : Around} {outer : List Env} {s : Shared} {H : Hp} (room : Room 3 (A.deeper (envOfC "least_burst" (defScope (top 24)) s.heap.objs.size f cdv))) (gd : A.guards = some []) (x_arrivals : D) (x_every : D) :
    DB (BX P w K mg base nm_least_burst "least_burst" (defScope (top 24)) f cdv A outer s H) ⟨H, []⟩ (fun _ : Unit => [.any, .any, .any, .any, .any, .any]) GE (RKp K H) [.imm x_arrivals, .imm x_every, .any, .any, .any, .any] (defBody (top 24)) (B_least_burst x_arrivals x_every) := by
  unfold B_least_burst
  refine db_ifr (dt_not (dt_val (de_call (F_are_arrivals W) (room.mono (by decide : 3 ≤ 3)) gd (da_cons (de_var 0) da_nil) (hs := by exact ⟨rfl, trivial⟩)))) ?_ ?_
  · exact db_none
  refine db_ifr (dt_not (dt_val (de_call (F_is_int W) (room.mono (by decide : 1 ≤ 3)) gd (da_cons (de_var 1) (da_cons de_int (da_cons (de_gint W.c_MOST_TICK) da_nil))) (hs := by exact ⟨rfl, rfl, rfl, trivial⟩)))) ?_ ?_
  · exact db_none
  refine db_asg 2 nd_least_burst de_int fun v3 => ?_
  refine db_for (P := (D × D)) (fun l4 : D => [.imm x_arrivals, .imm x_every, .imm l4, .any, .any, .any]) v3 rfl rfl (di_enum W.n_enumerate (de_var 0)) ⟨.inl rfl, .inl rfl, .inl rfl, .inr rfl, .inr rfl, .inr rfl, trivial⟩ (fun l4 => (dg_tup2 rfl (dg_name 3 nd_least_burst) fun _ => (dg_name 4 nd_least_burst))) (fun l4 p5 => ?_) fun l4 => ?_
  · unfold L2_least_burst
    refine db_for (P := D) (fun l10 : D => [.imm x_arrivals, .imm x_every, .imm l10, .imm p5.1, .imm p5.2, .any]) l4 rfl rfl (di_range1 W.n_range (de_plus (DE.w (de_var 3)) (DE.w de_int))) ⟨.inl rfl, .inl rfl, .inl rfl, .inl rfl, .inl rfl, .inr rfl, trivial⟩ (fun l10 => (dg_name 5 nd_least_burst)) (fun l10 p11 => ?_) fun l10 => ?_
    · unfold L1_least_burst
      refine db_asg 2 nd_least_burst (de_callB (cd_max rfl (u100 room)) W.n_max (daw_cons (DE.w (de_var 2)) (daw_cons (DE.w (de_op od_sub (DE.w (de_plus (DE.w (de_op od_sub (DE.w (de_var 3)) (DE.w (de_var 5)))) (DE.w de_int))) (DE.w (de_op od_fdiv (DE.w (de_op od_sub (DE.w (de_var 4)) (DE.w (de_ix (DE.w (de_var 0)) (DE.w (de_var 5)))))) (DE.w (de_var 1)))))) daw_nil)) (hs := by exact ⟨rfl, rfl, trivial⟩)) fun v13 => ?_
      exact db_nil v13 ⟨.inl rfl, .inl rfl, .inl rfl, .inl rfl, .inl rfl, .inr rfl, trivial⟩
    exact db_nil l10 ⟨.inl rfl, .inl rfl, .inl rfl, .inr rfl, .inr rfl, .inr rfl, trivial⟩
  exact db_ret (de_var 2) rkp
theorem F_least_burst (W : Wd K mg) : CalG P w K mg base 4 "least_burst" (spP K g_least_burst) :=
  calP W.d_least_burst sc_least_burst (fun _ _ _ _ _ _ us hl => match us, hl with | [_, _], _ => rfl) (by decide) b_least_burst (fun ds o h => by unfold b_least_burst at h; split at h <;> first | rfl | cases h)
    fun f cdv A outer s H ds hl room gd => match ds, hl with | [x_arrivals, x_every], _ => w_least_burst W room gd x_arrivals x_every
abbrev nm__law_pot : List Str := ["script", "place", "cell", "own", "small"]
theorem nd__law_pot : nm__law_pot.Nodup := by decide +kernel
theorem sc__law_pot : FnScope nm__law_pot ["script", "place"] (defScope (top 26)) := C8.fnScope_by (by decide +kernel)
theorem w__law_pot (W : Wd K mg) {f : Addr} {cdv : Value} {A : Around} {outer : List Env} {s : Shared} {H : Hp} (room : Room 0 (A.deeper (envOfC "_law_pot" (defScope (top 26)) s.heap.objs.size f cdv))) (gd : A.guards = some []) (x_script : D) (x_place : D) :
    DB (BX P w K mg base nm__law_pot "_law_pot" (defScope (top 26)) f cdv A outer s H) ⟨H, []⟩ (fun _ : Unit => [.any, .any, .any, .any, .any]) GE (RKf K H) [.imm x_script, .imm x_place, .any, .any, .any] (defBody (top 26)) (B__law_pot x_script x_place) := by
  unfold B__law_pot
  refine db_asg 2 nd__law_pot (de_ite (dt_cmp (od_lt (u64 room)) (DE.w (de_var 1)) (DE.w (de_callB cd_len W.n_len (daw_cons (DE.w (de_var 0)) daw_nil) (hs := by exact ⟨rfl, trivial⟩)))) (de_ix (DE.w (de_var 0)) (DE.w (de_var 1))) (de_plus (DE.w (de_plus (DE.w (de_op od_mod (DE.w (de_callT cd_int W.n_int (daw_cons (DE.w (de_callB (cd_sum rfl) W.n_sum (daw_cons (DE.w (de_sl (de_var 0) .no (.yes de_int))) daw_nil) (hs := by exact ⟨rfl, trivial⟩))) daw_nil) (hs := by exact ⟨rfl, trivial⟩))) (DE.w de_int))) (DE.w (de_op od_mul (DE.w de_int) (DE.w (de_var 1)))))) (DE.w de_int))) fun v1 => ?_
  refine db_asg 3 nd__law_pot (de_op od_mul (DE.w (de_op od_mod (DE.w (de_callT cd_int W.n_int (daw_cons (DE.w (de_callB cd_abs W.n_abs (daw_cons (DE.w (de_var 2)) daw_nil) (hs := by exact ⟨rfl, trivial⟩))) daw_nil) (hs := by exact ⟨rfl, trivial⟩))) (DE.w (de_op od_pow (DE.w (de_op od_pow (DE.w de_int) (DE.w de_int))) (DE.w de_int))))) (DE.w (de_callT cd_int W.n_int (daw_cons (DE.w (de_cmp (od_ge (u64 room)) (DE.w (de_callB cd_abs W.n_abs (daw_cons (DE.w (de_var 2)) daw_nil) (hs := by exact ⟨rfl, trivial⟩))) (DE.w (de_op od_pow (DE.w de_int) (DE.w de_int))))) daw_nil) (hs := by exact ⟨rfl, trivial⟩)))) fun v2 => ?_
  refine db_asg 4 nd__law_pot (de_op od_mod (DE.w (de_callT cd_int W.n_int (daw_cons (DE.w (de_var 2)) daw_nil) (hs := by exact ⟨rfl, trivial⟩))) (DE.w de_int)) fun v3 => ?_
  exact db_retF (df_lst (da_cons (de_var 3) (da_cons (de_op od_mod (DE.w (de_callT cd_int W.n_int (daw_cons (DE.w (de_plus (DE.w (de_plus (DE.w (de_op od_mul (DE.w (de_var 4)) (DE.w de_int))) (DE.w (de_op od_mul (DE.w (de_op od_mul (DE.w de_int) (DE.w (de_var 1)))) (DE.w (de_var 1)))))) (DE.w de_int))) daw_nil) (hs := by exact ⟨rfl, trivial⟩))) (DE.w de_int)) (da_cons de_int da_nil))) (hs := by exact ⟨rfl, rfl, rfl, trivial⟩)) rkf
theorem F__law_pot (W : Wd K mg) : CalG P w K mg base 1 "_law_pot" (spF K g__law_pot) :=
  calF W.d__law_pot sc__law_pot (fun _ _ _ _ _ _ us hl => match us, hl with | [_, _], _ => rfl) (by decide) b__law_pot (fun ds o h => by unfold b__law_pot at h; split at h <;> first | rfl | cases h)
    fun f cdv A outer s H ds hl room gd => match ds, hl with | [x_script, x_place], _ => w__law_pot W room gd x_script x_place
abbrev nm__law_take : List Str := ["pot", "upto", "digit", "prime", "blend"]
theorem nd__law_take : nm__law_take.Nodup := by decide +kernel
theorem sc__law_take : FnScope nm__law_take ["pot", "upto"] (defScope (top 27)) := C8.fnScope_by (by decide +kernel)
theorem w__law_take (W : Wd K mg) {f : Addr} {cdv : Value} {A : Around} {outer : List Env} {s : Shared} {H : Hp} {a : Addr} (room : Room 0 (A.deeper (envOfC "_law_take" (defScope (top 27)) s.heap.objs.size f cdv))) (gd : A.guards = some []) (x_pot : List D) (x_upto : D) :
    DB (BX P w K mg base nm__law_take "_law_take" (defScope (top 27)) f cdv A outer s H) ⟨H, [(0, a)]⟩ (fun qs : List D => [.own qs, .any, .any, .any, .any]) GE (RKm K H a) [.own x_pot, .imm x_upto, .any, .any, .any] (defBody (top 27)) (B__law_take x_pot x_upto) := by
  unfold B__law_take
  refine db_ifr (dt_cmp (od_gt (u64 room)) (DE.w (de_ix (dw_own 0) (DE.w de_int))) (DE.w de_int)) ?_ ?_
  · refine db_asg 2 nd__law_take (de_op od_mod (DE.w (de_callT cd_int W.n_int (daw_cons (DE.w (de_ix (dw_own 0) (DE.w de_int))) daw_nil) (hs := by exact ⟨rfl, trivial⟩))) (DE.w (de_var 1))) fun v2 => ?_
    refine db_set 0 (de_op od_fdiv (DE.w (de_ix (dw_own 0) (DE.w de_int))) (DE.w (de_var 1))) de_int fun v3 => ?_
    exact db_ret (de_var 2) (rkm rfl)
  refine db_set 0 (de_plus (DE.w (de_ix (dw_own 0) (DE.w de_int))) (DE.w de_int)) de_int fun v4 => ?_
  refine db_asg 3 nd__law_take (de_ix (DE.w (DF.e (df_lst (da_cons de_int (da_cons de_int (da_cons de_int (da_cons de_int (da_cons de_int da_nil))))) (hs := by exact ⟨rfl, rfl, rfl, rfl, rfl, trivial⟩)))) (DE.w (de_op od_mod (DE.w (de_callT cd_int W.n_int (daw_cons (DE.w (de_ix (dw_own 0) (DE.w de_int))) daw_nil) (hs := by exact ⟨rfl, trivial⟩))) (DE.w de_int)))) fun v5 => ?_
  refine db_asg 4 nd__law_take (de_op od_mod (DE.w (de_callT cd_int W.n_int (daw_cons (DE.w (de_op od_pow (DE.w (de_callT cd_int W.n_int (daw_cons (DE.w (de_plus (DE.w (de_plus (DE.w (de_ix (dw_own 0) (DE.w de_int))) (DE.w (de_op od_mul (DE.w (de_op od_mul (DE.w de_int) (DE.w (de_ix (dw_own 0) (DE.w de_int))))) (DE.w (de_ix (dw_own 0) (DE.w de_int))))))) (DE.w de_int))) daw_nil) (hs := by exact ⟨rfl, trivial⟩))) (DE.w de_int))) daw_nil) (hs := by exact ⟨rfl, trivial⟩))) (DE.w (de_var 3))) fun v6 => ?_
  refine db_asg 4 nd__law_take (de_op od_mod (DE.w (de_callT cd_int W.n_int (daw_cons (DE.w (de_op od_mul (DE.w (de_var 4)) (DE.w (de_plus (DE.w (de_op od_mod (DE.w (de_callT cd_int W.n_int (daw_cons (DE.w (de_var 4)) daw_nil) (hs := by exact ⟨rfl, trivial⟩))) (DE.w de_int))) (DE.w (de_op od_mul (DE.w de_int) (DE.w (de_ix (dw_own 0) (DE.w de_int))))))))) daw_nil) (hs := by exact ⟨rfl, trivial⟩))) (DE.w de_int)) fun v7 => ?_
  exact db_ret (de_op od_mod (DE.w (de_callT cd_int W.n_int (daw_cons (DE.w (de_op od_fdiv (DE.w (de_var 4)) (DE.w de_int))) daw_nil) (hs := by exact ⟨rfl, trivial⟩))) (DE.w (de_var 1))) (rkm rfl)
theorem F__law_take (W : Wd K mg) : CalG P w K mg base 1 "_law_take" (spM K g__law_take) :=
  calM W.d__law_take sc__law_take (fun _ _ _ _ _ _ us hl => match us, hl with | [_, _], _ => rfl) (by decide) b__law_take (fun qs ds o h => by unfold b__law_take at h; split at h <;> first | rfl | cases h)
    fun f cdv A outer s H a qs ds hl room gd => match ds, hl with | [x_upto], _ => w__law_take W room gd qs x_upto
abbrev nm__law_of : List Str := ["pot", "some"]
theorem nd__law_of : nm__law_of.Nodup := by decide +kernel
theorem sc__law_of : FnScope nm__law_of ["pot", "some"] (defScope (top 28)) := C8.fnScope_by (by decide +kernel)
theorem w__law_of (W : Wd K mg) {f : Addr} {cdv : Value} {A : Around} {outer : List Env} {s : Shared} {H : Hp} {a : Addr} (room : Room 1 (A.deeper (envOfC "_law_of" (defScope (top 28)) s.heap.objs.size f cdv))) (gd : A.guards = some []) (x_pot : List D) (x_some : D) :
    DB (BX P w K mg base nm__law_of "_law_of" (defScope (top 28)) f cdv A outer s H) ⟨H, [(0, a)]⟩ (fun qs : List D => [.own qs, .any]) GE (RKm K H a) [.own x_pot, .imm x_some] (defBody (top 28)) (B__law_of x_pot x_some) := by
  unfold B__law_of
  exact dbx_ret (G := fun p => [.own p, .imm x_some]) (t := x_pot) (dx_ix (dx_lift fun p => (de_var 1)) (dx_callM 0 (F__law_take W) (room.mono (by decide : 1 ≤ 1)) gd (dxa_cons (dx_lift fun p => (de_callB cd_len W.n_len (daw_cons (DE.w (de_var 1)) daw_nil) (hs := by exact ⟨rfl, trivial⟩))) dxa_nil) (hs := by exact ⟨rfl, rfl, trivial⟩))) fun d _ => rkm rfl d
theorem F__law_of (W : Wd K mg) : CalG P w K mg base 2 "_law_of" (spM K g__law_of) :=
  calM W.d__law_of sc__law_of (fun _ _ _ _ _ _ us hl => match us, hl with | [_, _], _ => rfl) (by decide) b__law_of (fun qs ds o h => by unfold b__law_of at h; split at h <;> first | rfl | cases h)
    fun f cdv A outer s H a qs ds hl room gd => match ds, hl with | [x_some], _ => w__law_of W room gd qs x_some
abbrev nm__law_cells : List Str := ["script", "most"]
theorem nd__law_cells : nm__law_cells.Nodup := by decide +kernel
theorem sc__law_cells : FnScope nm__law_cells ["script", "most"] (defScope (top 29)) := C8.fnScope_by (by decide +kernel)
theorem w__law_cells (W : Wd K mg) {f : Addr} {cdv : Value} {A : Around} {outer : List Env} {s : Shared} {H : Hp} (room : Room 0 (A.deeper (envOfC "_law_cells" (defScope (top 29)) s.heap.objs.size f cdv))) (gd : A.guards = some []) (x_script : D) (x_most : D) :
    DB (BX P w K mg base nm__law_cells "_law_cells" (defScope (top 29)) f cdv A outer s H) ⟨H, []⟩ (fun _ : Unit => [.any, .any]) GE (RKf K H) [.imm x_script, .imm x_most] (defBody (top 29)) (B__law_cells x_script x_most) := by
  unfold B__law_cells
  exact db_retF (df_lr1 rfl W.n_list W.n_range (de_callB (cd_max rfl (u100 room)) W.n_max (daw_cons (DE.w de_int) (daw_cons (DE.w (de_callB (cd_min rfl (u100 room)) W.n_min (daw_cons (DE.w (de_var 1)) (daw_cons (DE.w (de_callB cd_len W.n_len (daw_cons (DE.w (de_var 0)) daw_nil) (hs := by exact ⟨rfl, trivial⟩))) daw_nil)) (hs := by exact ⟨rfl, rfl, trivial⟩))) daw_nil)) (hs := by exact ⟨rfl, rfl, trivial⟩))) rkf
theorem F__law_cells (W : Wd K mg) : CalG P w K mg base 1 "_law_cells" (spF K g__law_cells) :=
  calF W.d__law_cells sc__law_cells (fun _ _ _ _ _ _ us hl => match us, hl with | [_, _], _ => rfl) (by decide) b__law_cells (fun ds o h => by unfold b__law_cells at h; split at h <;> first | rfl | cases h)
    fun f cdv A outer s H ds hl room gd => match ds, hl with | [x_script, x_most], _ => w__law_cells W room gd x_script x_most
abbrev nm__law_row : List Str := ["pot", "many", "found", "size", "lap"]
theorem nd__law_row : nm__law_row.Nodup := by decide +kernel
theorem sc__law_row : FnScope nm__law_row ["pot", "many"] (defScope (top 30)) := C8.fnScope_by (by decide +kernel)
theorem w__law_row (W : Wd K mg) {f : Addr} {cdv : Value} {A : Around} {outer : List Env} {s : Shared} {H : Hp} {a : Addr} (room : Room 2 (A.deeper (envOfC "_law_row" (defScope (top 30)) s.heap.objs.size f cdv))) (gd : A.guards = some []) (x_pot : List D) (x_many : D) :
    DB (BX P w K mg base nm__law_row "_law_row" (defScope (top 30)) f cdv A outer s H) ⟨H, [(0, a)]⟩ (fun qs : List D => [.own qs, .any, .any, .any, .any]) GE (RKm K H a) [.own x_pot, .imm x_many, .any, .any, .any] (defBody (top 30)) (B__law_row x_pot x_many) := by
  unfold B__law_row
  refine dbx_par (G := fun p => [.own p, .imm x_many, .any, .any, .any]) (t := x_pot) .own .imm 2 3 rfl nd__law_row (dxk_own (dxf_lst (dxa_cons (dx_callT cd_int W.n_int (dxa_cons (dx_callM 0 (F__law_take W) (room.mono (by decide : 1 ≤ 2)) gd (dxa_cons (dx_lift fun p => de_int) dxa_nil) (hs := by exact ⟨rfl, rfl, trivial⟩)) dxa_nil) (hs := by exact ⟨rfl, trivial⟩)) dxa_nil) (hs := by exact ⟨rfl, trivial⟩))) (dxk_imm (dx_callM 0 (F__law_of W) (room.mono (by decide : 2 ≤ 2)) gd (dxa_cons (dx_lift fun p => (de_tup (da_cons de_int (da_cons de_int (da_cons de_int (da_cons de_int da_nil)))) (hs := by exact ⟨rfl, rfl, rfl, rfl, trivial⟩))) dxa_nil) (hs := by exact ⟨rfl, rfl, trivial⟩))) fun v1 => ?_
  refine dbx_for (P := D) (G := fun p => [.own p, .imm x_many, .own v1.1.1, .imm v1.1.2, .any]) (t := v1.2) (fun l2 : List D × List D => [.own l2.1, .imm x_many, .own l2.2, .imm v1.1.2, .any]) (fun p => (p, v1.1.1)) rfl rfl (dxi_range1 W.n_range (dx_callM 0 (F__law_take W) (room.mono (by decide : 1 ≤ 2)) gd (dxa_cons (dx_lift fun p => (de_var 1)) dxa_nil) (hs := by exact ⟨rfl, rfl, trivial⟩))) (fun p => ⟨.inl rfl, .inl rfl, .inl rfl, .inl rfl, .inr rfl, trivial⟩) (fun l2 => (dg_name 4 nd__law_row)) (fun l2 p3 => ?_) fun l2 => ?_
  · unfold L1__law_row
    refine dbx_append (G := fun p => [.own p, .imm x_many, .own l2.2, .imm v1.1.2, .imm p3]) (t := l2.1) (fun _ => l2.2) 2 (dx_plus (dx_lift fun p => (de_ix (dw_own 2) (DE.w (de_un ud_neg de_int)))) (dx_callT cd_int W.n_int (dxa_cons (dx_callM 0 (F__law_take W) (room.mono (by decide : 1 ≤ 2)) gd (dxa_cons (dx_lift fun p => (de_var 3)) dxa_nil) (hs := by exact ⟨rfl, rfl, trivial⟩)) dxa_nil) (hs := by exact ⟨rfl, trivial⟩))) (fun _ => rfl) fun v5 => ?_
    exact db_nil (v5.2, v5.1) ⟨.inl rfl, .inl rfl, .inl rfl, .inl rfl, .inr rfl, trivial⟩
  exact db_ret (de_callT cd_tuple W.n_tuple (daw_cons (dw_own 2) daw_nil) (hs := by exact ⟨rfl, trivial⟩)) (rkm rfl)
theorem F__law_row (W : Wd K mg) : CalG P w K mg base 3 "_law_row" (spM K g__law_row) :=
  calM W.d__law_row sc__law_row (fun _ _ _ _ _ _ us hl => match us, hl with | [_, _], _ => rfl) (by decide) b__law_row (fun qs ds o h => by unfold b__law_row at h; split at h <;> first | rfl | cases h)
    fun f cdv A outer s H a qs ds hl room gd => match ds, hl with | [x_many], _ => w__law_row W room gd qs x_many
abbrev nm__law_bucket : List Str := ["pot"]
theorem nd__law_bucket : nm__law_bucket.Nodup := by decide +kernel
theorem sc__law_bucket : FnScope nm__law_bucket ["pot"] (defScope (top 31)) := C8.fnScope_by (by decide +kernel)
theorem w__law_bucket (W : Wd K mg) {f : Addr} {cdv : Value} {A : Around} {outer : List Env} {s : Shared} {H : Hp} {a : Addr} (room : Room 2 (A.deeper (envOfC "_law_bucket" (defScope (top 31)) s.heap.objs.size f cdv))) (gd : A.guards = some []) (x_pot : List D) :
    DB (BX P w K mg base nm__law_bucket "_law_bucket" (defScope (top 31)) f cdv A outer s H) ⟨H, [(0, a)]⟩ (fun qs : List D => [.own qs]) GE (RKm K H a) [.own x_pot] (defBody (top 31)) (B__law_bucket x_pot) := by
  unfold B__law_bucket
  exact dbx_ret (G := fun p => [.own p]) (t := x_pot) (dx_tup (dxa_cons (dx_plus (dx_lift fun p => de_int) (dx_callT cd_int W.n_int (dxa_cons (dx_callM 0 (F__law_take W) (room.mono (by decide : 1 ≤ 2)) gd (dxa_cons (dx_callM 0 (F__law_of W) (room.mono (by decide : 2 ≤ 2)) gd (dxa_cons (dx_lift fun p => (de_tup (da_cons de_int (da_cons de_int (da_cons de_int da_nil))) (hs := by exact ⟨rfl, rfl, rfl, trivial⟩))) dxa_nil) (hs := by exact ⟨rfl, rfl, trivial⟩)) dxa_nil) (hs := by exact ⟨rfl, rfl, trivial⟩)) dxa_nil) (hs := by exact ⟨rfl, trivial⟩))) (dxa_cons (dx_plus (dx_lift fun p => de_int) (dx_callT cd_int W.n_int (dxa_cons (dx_callM 0 (F__law_take W) (room.mono (by decide : 1 ≤ 2)) gd (dxa_cons (dx_callM 0 (F__law_of W) (room.mono (by decide : 2 ≤ 2)) gd (dxa_cons (dx_lift fun p => (de_tup (da_cons de_int (da_cons de_int (da_cons de_int da_nil))) (hs := by exact ⟨rfl, rfl, rfl, trivial⟩))) dxa_nil) (hs := by exact ⟨rfl, rfl, trivial⟩)) dxa_nil) (hs := by exact ⟨rfl, rfl, trivial⟩)) dxa_nil) (hs := by exact ⟨rfl, trivial⟩))) dxa_nil)) (hs := by exact ⟨rfl, rfl, trivial⟩)) fun d _ => rkm rfl d
theorem F__law_bucket (W : Wd K mg) : CalG P w K mg base 3 "_law_bucket" (spM K g__law_bucket) :=
  calM W.d__law_bucket sc__law_bucket (fun _ _ _ _ _ _ us hl => match us, hl with | [_], _ => rfl) (by decide) b__law_bucket (fun qs ds o h => by unfold b__law_bucket at h; split at h <;> first | rfl | cases h)
    fun f cdv A outer s H a qs ds hl room gd => match ds, hl with | [], _ => w__law_bucket W room gd qs 
abbrev nm__law_later : List Str := ["row", "by", "tick"]
theorem nd__law_later : nm__law_later.Nodup := by decide +kernel
theorem sc__law_later : FnScope nm__law_later ["row", "by"] (defScope (top 32)) := C8.fnScope_by (by decide +kernel)
theorem w__law_later (W : Wd K mg) {f : Addr} {cdv : Value} {A : Around} {outer : List Env} {s : Shared} {H : Hp} (room : Room 0 (A.deeper (envOfC "_law_later" (defScope (top 32)) s.heap.objs.size f cdv))) (gd : A.guards = some []) (x_row : D) (x_by : D) :
    DB (BX P w K mg base nm__law_later "_law_later" (defScope (top 32)) f cdv A outer s H) ⟨H, []⟩ (fun _ : Unit => [.any, .any, .any]) GE (RKp K H) [.imm x_row, .imm x_by, .any] (defBody (top 32)) (B__law_later x_row x_by) := by
  unfold B__law_later
  exact db_ret (de_callT cd_tuple W.n_tuple (daw_cons (DE.w (DF.e (df_lc [("tick", 2)] rfl nd__law_later (di_seq (de_var 0)) (fun _ _ _ _ _ => (dg_name 2 nd__law_later)) (fun _ _ _ _ _ p1 => dts_nil) (fun _ _ _ _ _ p1 => (de_plus (DE.w (de_var 2)) (DE.w (de_var 1))))))) daw_nil) (hs := by exact ⟨rfl, trivial⟩)) rkp
theorem F__law_later (W : Wd K mg) : CalG P w K mg base 1 "_law_later" (spP K g__law_later) :=
  calP W.d__law_later sc__law_later (fun _ _ _ _ _ _ us hl => match us, hl with | [_, _], _ => rfl) (by decide) b__law_later (fun ds o h => by unfold b__law_later at h; split at h <;> first | rfl | cases h)
    fun f cdv A outer s H ds hl room gd => match ds, hl with | [x_row, x_by], _ => w__law_later W room gd x_row x_by
abbrev nm__law_gone : List Str := ["row", "bucket", "found", "at", "tick", "some", "first"]
theorem nd__law_gone : nm__law_gone.Nodup := by decide +kernel
theorem sc__law_gone : FnScope nm__law_gone ["row", "bucket"] (defScope (top 33)) := C8.fnScope_by (by decide +kernel)
theorem w__law_gone (W : Wd K mg) {f : Addr} {cdv : Value} {A : Around} {outer : List Env} {s : Shared} {H : Hp} (room : Room 0 (A.deeper (envOfC "_law_gone" (defScope (top 33)) s.heap.objs.size f cdv))) (gd : A.guards = some []) (x_row : D) (x_bucket : D) :
    DB (BX P w K mg base nm__law_gone "_law_gone" (defScope (top 33)) f cdv A outer s H) ⟨H, []⟩ (fun _ : Unit => [.any, .any, .any, .any, .any, .any, .any]) GE (RKp K H) [.imm x_row, .imm x_bucket, .any, .any, .any, .any, .any] (defBody (top 33)) (B__law_gone x_row x_bucket) := by
  unfold B__law_gone
  refine db_asgF 2 nd__law_gone (df_lst da_nil (hs := by exact trivial)) fun v1 => ?_
  refine db_for (P := (D × D)) (fun l2 : List D => [.imm x_row, .imm x_bucket, .own l2, .any, .any, .any, .any]) v1 rfl rfl (di_enum W.n_enumerate (de_var 0)) ⟨.inl rfl, .inl rfl, .inl rfl, .inr rfl, .inr rfl, .inr rfl, .inr rfl, trivial⟩ (fun l2 => (dg_tup2 rfl (dg_name 3 nd__law_gone) fun _ => (dg_name 4 nd__law_gone))) (fun l2 p3 => ?_) fun l2 => ?_
  · unfold L1__law_gone
    refine db_setLc 5 [("first", 6)] rfl nd__law_gone (di_range1 W.n_range (de_var 3)) (fun _ _ _ _ _ => (dg_name 6 nd__law_gone)) (fun _ _ _ _ _ p8 => dts_one (dt_cmp (od_ge (u64 room)) (DE.w (de_op od_sub (DE.w (de_var 3)) (DE.w (de_var 6)))) (DE.w (de_ix (DE.w (de_var 1)) (DE.w de_int))))) (fun _ _ _ _ _ p8 => (de_plus (DE.w (de_ix (dw_own 2) (DE.w (de_var 6)))) (DE.w (de_op od_mul (DE.w (de_op od_sub (DE.w (de_plus (DE.w (de_op od_sub (DE.w (de_var 3)) (DE.w (de_var 6)))) (DE.w de_int))) (DE.w (de_ix (DE.w (de_var 1)) (DE.w de_int))))) (DE.w (de_ix (DE.w (de_var 1)) (DE.w de_int))))))) fun v7 => ?_
    refine db_frz 5 ?_
    refine db_append 2 rfl (de_callB (cd_max rfl (u100 room)) W.n_max (daw_cons (DE.w (de_plus (DE.w (de_var 5)) (DE.w (DF.e (df_lst (da_cons (de_var 4) da_nil) (hs := by exact ⟨rfl, trivial⟩)))))) daw_nil) (hs := by exact ⟨rfl, trivial⟩)) fun v9 => ?_
    exact db_nil v9 ⟨.inl rfl, .inl rfl, .inl rfl, .inr rfl, .inr rfl, .inr rfl, .inr rfl, trivial⟩
  exact db_ret (de_callT cd_tuple W.n_tuple (daw_cons (dw_own 2) daw_nil) (hs := by exact ⟨rfl, trivial⟩)) rkp
theorem F__law_gone (W : Wd K mg) : CalG P w K mg base 1 "_law_gone" (spP K g__law_gone) :=
  calP W.d__law_gone sc__law_gone (fun _ _ _ _ _ _ us hl => match us, hl with | [_, _], _ => rfl) (by decide) b__law_gone (fun ds o h => by unfold b__law_gone at h; split at h <;> first | rfl | cases h)
    fun f cdv A outer s H ds hl room gd => match ds, hl with | [x_row, x_bucket], _ => w__law_gone W room gd x_row x_bucket
abbrev nm__law_are_two_right : List Str := ["pot", "one", "other", "bucket", "due", "its", "tick", "gone", "by", "far", "waits", "row", "bursts", "wide"]
theorem nd__law_are_two_right : nm__law_are_two_right.Nodup := by decide +kernel
theorem sc__law_are_two_right : FnScope nm__law_are_two_right ["pot", "one", "other", "bucket"] (defScope (top 34)) := C8.fnScope_by (by decide +kernel)
theorem w__law_are_two_right (W : Wd K mg) {f : Addr} {cdv : Value} {A : Around} {outer : List Env} {s : Shared} {H : Hp} {a : Addr} (room : Room 5 (A.deeper (envOfC "_law_are_two_right" (defScope (top 34)) s.heap.objs.size f cdv))) (gd : A.guards = some []) (x_pot : List D) (x_one : D) (x_other : D) (x_bucket : D) :
    DB (BX P w K mg base nm__law_are_two_right "_law_are_two_right" (defScope (top 34)) f cdv A outer s H) ⟨H, [(0, a)]⟩ (fun qs : List D => [.own qs, .any, .any, .any, .any, .any, .any, .any, .any, .any, .any, .any, .any, .any]) GE (RKm K H a) [.own x_pot, .imm x_one, .imm x_other, .imm x_bucket, .any, .any, .any, .any, .any, .any, .any, .any, .any, .any] (defBody (top 34)) (B__law_are_two_right x_pot x_one x_other x_bucket) := by
  unfold B__law_are_two_right
  refine db_asg 4 nd__law_are_two_right (de_call (F__law_gone W) (room.mono (by decide : 1 ≤ 5)) gd (da_cons (de_var 1) (da_cons (de_var 3) da_nil)) (hs := by exact ⟨rfl, rfl, trivial⟩)) fun v1 => ?_
  refine db_ifr (DTw.t (dw_or (dt_cmp (od_ne (u64 room)) (DE.w (de_callB (cd_repr gd (u100 room)) W.n_repr (daw_cons (DE.w (de_call (F_held_back W) (room.mono (by decide : 5 ≤ 5)) gd (da_cons (de_var 1) (da_cons (de_var 3) da_nil)) (hs := by exact ⟨rfl, rfl, trivial⟩))) daw_nil) (hs := by exact ⟨rfl, trivial⟩))) (DE.w (de_callB (cd_repr gd (u100 room)) W.n_repr (daw_cons (DE.w (de_var 4)) daw_nil) (hs := by exact ⟨rfl, trivial⟩)))) (dw_or1 (dt_cmp (od_ne (u64 room)) (DE.w (de_call (F_longest_wait W) (room.mono (by decide : 5 ≤ 5)) gd (da_cons (de_var 1) (da_cons (de_var 3) da_nil)) (hs := by exact ⟨rfl, rfl, trivial⟩))) (DE.w (de_callB (cd_max rfl (u100 room)) W.n_max (daw_cons (DE.w (DF.e (df_lc [("its", 5), ("tick", 6)] rfl nd__law_are_two_right (di_zip2 W.n_zip (da_cons (de_var 4) (da_cons (de_var 1) da_nil))) (fun _ _ _ _ _ => (dg_tup2 rfl (dg_name 5 nd__law_are_two_right) fun _ => (dg_name 6 nd__law_are_two_right))) (fun _ _ _ _ _ p3 => dts_nil) (fun _ _ _ _ _ p3 => (de_op od_sub (DE.w (de_var 5)) (DE.w (de_var 6))))))) daw_nil) (hs := by exact ⟨rfl, trivial⟩))))))) ?_ ?_
  · exact db_ret de_bool (rkm rfl)
  refine db_asg 7 nd__law_are_two_right (de_ix (DE.w (de_var 4)) (DE.w (de_un ud_neg de_int))) fun v4 => ?_
  refine dbx_asg (G := fun p => [.own p, .imm x_one, .imm x_other, .imm x_bucket, .imm v1, .any, .any, .imm v4, .any, .any, .any, .any, .any, .any]) (t := x_pot) .imm 8 nd__law_are_two_right (dxk_imm (dx_plus (dx_lift fun p => (de_plus (DE.w (de_var 7)) (DE.w (de_op od_mul (DE.w (de_ix (DE.w (de_var 3)) (DE.w de_int))) (DE.w (de_ix (DE.w (de_var 3)) (DE.w de_int))))))) (dx_callT cd_int W.n_int (dxa_cons (dx_callM 0 (F__law_take W) (room.mono (by decide : 1 ≤ 5)) gd (dxa_cons (dx_lift fun p => de_int) dxa_nil) (hs := by exact ⟨rfl, rfl, trivial⟩)) dxa_nil) (hs := by exact ⟨rfl, trivial⟩)))) fun v5 => ?_
  refine db_asg 9 nd__law_are_two_right (de_call (F__law_later W) (room.mono (by decide : 1 ≤ 5)) gd (da_cons (de_var 2) (da_cons (de_var 8) da_nil)) (hs := by exact ⟨rfl, rfl, trivial⟩)) fun v6 => ?_
  refine db_ifr (dt_cmp (od_ne (u64 room)) (DE.w (de_callB (cd_repr gd (u100 room)) W.n_repr (daw_cons (DE.w (de_call (F_held_back W) (room.mono (by decide : 5 ≤ 5)) gd (da_cons (de_plus (DE.w (de_var 1)) (DE.w (de_var 9))) (da_cons (de_var 3) da_nil)) (hs := by exact ⟨rfl, rfl, trivial⟩))) daw_nil) (hs := by exact ⟨rfl, trivial⟩))) (DE.w (de_callB (cd_repr gd (u100 room)) W.n_repr (daw_cons (DE.w (de_plus (DE.w (de_call (F_held_back W) (room.mono (by decide : 5 ≤ 5)) gd (da_cons (de_var 1) (da_cons (de_var 3) da_nil)) (hs := by exact ⟨rfl, rfl, trivial⟩))) (DE.w (de_call (F__law_later W) (room.mono (by decide : 1 ≤ 5)) gd (da_cons (de_call (F_held_back W) (room.mono (by decide : 5 ≤ 5)) gd (da_cons (de_var 2) (da_cons (de_var 3) da_nil)) (hs := by exact ⟨rfl, rfl, trivial⟩)) (da_cons (de_var 8) da_nil)) (hs := by exact ⟨rfl, rfl, trivial⟩))))) daw_nil) (hs := by exact ⟨rfl, trivial⟩)))) ?_ ?_
  · exact db_ret de_bool (rkm rfl)
  refine db_ifr (dt_cmp (od_ne (u64 room)) (DE.w (de_cmp (od_eq (u64 room)) (DE.w (de_call (F_fits W) (room.mono (by decide : 5 ≤ 5)) gd (da_cons (de_plus (DE.w (de_var 1)) (DE.w (de_var 9))) (da_cons (de_var 3) da_nil)) (hs := by exact ⟨rfl, rfl, trivial⟩))) (DE.w (de_tup (da_cons de_str da_nil) (hs := by exact ⟨rfl, trivial⟩))))) (DE.w (de_chain (od_eq (u64 room)) (od_eq (u64 room)) (DE.w (de_call (F_fits W) (room.mono (by decide : 5 ≤ 5)) gd (da_cons (de_var 1) (da_cons (de_var 3) da_nil)) (hs := by exact ⟨rfl, rfl, trivial⟩))) (DE.w (de_call (F_fits W) (room.mono (by decide : 5 ≤ 5)) gd (da_cons (de_var 2) (da_cons (de_var 3) da_nil)) (hs := by exact ⟨rfl, rfl, trivial⟩))) (DE.w (de_tup (da_cons de_str da_nil) (hs := by exact ⟨rfl, trivial⟩)))))) ?_ ?_
  · exact db_ret de_bool (rkm rfl)
  refine db_setLc 10 [("row", 11)] rfl nd__law_are_two_right (di_seq (de_tup (da_cons (de_var 1) (da_cons (de_var 2) da_nil)) (hs := by exact ⟨rfl, rfl, trivial⟩))) (fun _ _ _ _ _ => (dg_name 11 nd__law_are_two_right)) (fun _ _ _ _ _ p10 => dts_nil) (fun _ _ _ _ _ p10 => (de_call (F_longest_wait W) (room.mono (by decide : 5 ≤ 5)) gd (da_cons (de_var 11) (da_cons (de_var 3) da_nil)) (hs := by exact ⟨rfl, rfl, trivial⟩))) fun v9 => ?_
  refine db_frz 10 ?_
  refine db_ifr (DTw.t (dw_or (dt_cmp (od_ne (u64 room)) (DE.w (de_call (F_longest_wait W) (room.mono (by decide : 5 ≤ 5)) gd (da_cons (de_plus (DE.w (de_var 1)) (DE.w (de_var 9))) (da_cons (de_var 3) da_nil)) (hs := by exact ⟨rfl, rfl, trivial⟩))) (DE.w (de_callB (cd_max rfl (u100 room)) W.n_max (daw_cons (DE.w (de_var 10)) daw_nil) (hs := by exact ⟨rfl, trivial⟩)))) (dw_or1 (dt_cmp (od_ne (u64 room)) (DE.w (de_call (F_longest_wait W) (room.mono (by decide : 5 ≤ 5)) gd (da_cons (de_var 9) (da_cons (de_var 3) da_nil)) (hs := by exact ⟨rfl, rfl, trivial⟩))) (DE.w (de_ix (DE.w (de_var 10)) (DE.w de_int))))))) ?_ ?_
  · exact db_ret de_bool (rkm rfl)
  refine db_setLc 12 [("row", 11)] rfl nd__law_are_two_right (di_seq (de_tup (da_cons (de_var 1) (da_cons (de_var 2) da_nil)) (hs := by exact ⟨rfl, rfl, trivial⟩))) (fun _ _ _ _ _ => (dg_name 11 nd__law_are_two_right)) (fun _ _ _ _ _ p13 => dts_nil) (fun _ _ _ _ _ p13 => (de_call (F_least_burst W) (room.mono (by decide : 4 ≤ 5)) gd (da_cons (de_var 11) (da_cons (de_ix (DE.w (de_var 3)) (DE.w de_int)) da_nil)) (hs := by exact ⟨rfl, rfl, trivial⟩))) fun v12 => ?_
  refine db_frz 12 ?_
  refine db_asg 13 nd__law_are_two_right (de_call (F__law_later W) (room.mono (by decide : 1 ≤ 5)) gd (da_cons (de_var 2) (da_cons (de_plus (DE.w (de_ix (DE.w (de_var 1)) (DE.w (de_un ud_neg de_int)))) (DE.w (de_op od_mul (DE.w de_int) (DE.w (de_ix (DE.w (de_var 3)) (DE.w de_int)))))) da_nil)) (hs := by exact ⟨rfl, rfl, trivial⟩)) fun v14 => ?_
  exact db_ret (de_and (de_cmp (od_eq (u64 room)) (DE.w (de_call (F_least_burst W) (room.mono (by decide : 4 ≤ 5)) gd (da_cons (de_plus (DE.w (de_var 1)) (DE.w (de_var 13))) (da_cons (de_ix (DE.w (de_var 3)) (DE.w de_int)) da_nil)) (hs := by exact ⟨rfl, rfl, trivial⟩))) (DE.w (de_callB (cd_max rfl (u100 room)) W.n_max (daw_cons (DE.w (de_var 12)) daw_nil) (hs := by exact ⟨rfl, trivial⟩)))) (de_one (de_cmp (od_eq (u64 room)) (DE.w (de_call (F_least_burst W) (room.mono (by decide : 4 ≤ 5)) gd (da_cons (de_var 9) (da_cons (de_ix (DE.w (de_var 3)) (DE.w de_int)) da_nil)) (hs := by exact ⟨rfl, rfl, trivial⟩))) (DE.w (de_ix (DE.w (de_var 12)) (DE.w de_int)))))) (rkm rfl)
theorem F__law_are_two_right (W : Wd K mg) : CalG P w K mg base 6 "_law_are_two_right" (spM K g__law_are_two_right) :=
  calM W.d__law_are_two_right sc__law_are_two_right (fun _ _ _ _ _ _ us hl => match us, hl with | [_, _, _, _], _ => rfl) (by decide) b__law_are_two_right (fun qs ds o h => by unfold b__law_are_two_right at h; split at h <;> first | rfl | cases h)
    fun f cdv A outer s H a qs ds hl room gd => match ds, hl with | [x_one, x_other, x_bucket], _ => w__law_are_two_right W room gd qs x_one x_other x_bucket
abbrev nm__law_is_cut_right : List Str := ["pot", "row", "buckets", "told", "cut", "marks", "tick", "some", "mark", "late", "its", "bucket", "burst", "every", "loose", "by"]
theorem nd__law_is_cut_right : nm__law_is_cut_right.Nodup := by decide +kernel
theorem sc__law_is_cut_right : FnScope nm__law_is_cut_right ["pot", "row", "buckets"] (defScope (top 35)) := C8.fnScope_by (by decide +kernel)
theorem w__law_is_cut_right (W : Wd K mg) {f : Addr} {cdv : Value} {A : Around} {outer : List Env} {s : Shared} {H : Hp} {a : Addr} (room : Room 5 (A.deeper (envOfC "_law_is_cut_right" (defScope (top 35)) s.heap.objs.size f cdv))) (gd : A.guards = some []) (x_pot : List D) (x_row : D) (x_buckets : D) :
    DB (BX P w K mg base nm__law_is_cut_right "_law_is_cut_right" (defScope (top 35)) f cdv A outer s H) ⟨H, [(0, a)]⟩ (fun qs : List D => [.own qs, .any, .any, .any, .any, .any, .any, .any, .any, .any, .any, .any, .any, .any, .any, .any]) GE (RKm K H a) [.own x_pot, .imm x_row, .imm x_buckets, .any, .any, .any, .any, .any, .any, .any, .any, .any, .any, .any, .any, .any] (defBody (top 35)) (B__law_is_cut_right x_pot x_row x_buckets) := by
  unfold B__law_is_cut_right
  refine db_asg 3 nd__law_is_cut_right (de_call (F_through_all W) (room.mono (by decide : 5 ≤ 5)) gd (da_cons (de_var 1) (da_cons (de_var 2) da_nil)) (hs := by exact ⟨rfl, rfl, trivial⟩)) fun v1 => ?_
  refine dbx_asg (G := fun p => [.own p, .imm x_row, .imm x_buckets, .imm v1, .any, .any, .any, .any, .any, .any, .any, .any, .any, .any, .any, .any]) (t := x_pot) .imm 4 nd__law_is_cut_right (dxk_imm (dx_callM 0 (F__law_take W) (room.mono (by decide : 1 ≤ 5)) gd (dxa_cons (dx_lift fun p => (de_plus (DE.w (de_callB cd_len W.n_len (daw_cons (DE.w (de_var 1)) daw_nil) (hs := by exact ⟨rfl, trivial⟩))) (DE.w de_int))) dxa_nil) (hs := by exact ⟨rfl, rfl, trivial⟩))) fun v2 => ?_
  refine db_ifr (DTw.t (dw_or (dt_cmp (od_ne (u64 room)) (DE.w (de_callB (cd_repr gd (u100 room)) W.n_repr (daw_cons (DE.w (de_call (F_through_all W) (room.mono (by decide : 5 ≤ 5)) gd (da_cons (de_sl (de_var 1) .no (.yes (de_var 4))) (da_cons (de_var 2) da_nil)) (hs := by exact ⟨rfl, rfl, trivial⟩))) daw_nil) (hs := by exact ⟨rfl, trivial⟩))) (DE.w (de_callB (cd_repr gd (u100 room)) W.n_repr (daw_cons (DE.w (de_sl (de_var 3) .no (.yes (de_var 4)))) daw_nil) (hs := by exact ⟨rfl, trivial⟩)))) (dw_or1 (dt_cmp (od_ne (u64 room)) (DE.w (de_callB (cd_repr gd (u100 room)) W.n_repr (daw_cons (DE.w (de_call (F_through_all W) (room.mono (by decide : 5 ≤ 5)) gd (da_cons (de_var 3) (da_cons (de_var 2) da_nil)) (hs := by exact ⟨rfl, rfl, trivial⟩))) daw_nil) (hs := by exact ⟨rfl, trivial⟩))) (DE.w (de_callB (cd_repr gd (u100 room)) W.n_repr (daw_cons (DE.w (de_var 3)) daw_nil) (hs := by exact ⟨rfl, trivial⟩))))))) ?_ ?_
  · exact db_ret de_bool (rkm rfl)
  refine dbx_setLc (G := fun p => [.own p, .imm x_row, .imm x_buckets, .imm v1, .imm v2.1, .any, .any, .any, .any, .any, .any, .any, .any, .any, .any, .any]) (t := v2.2) 5 [("tick", 6)] rfl nd__law_is_cut_right (dxi_lift fun p => (di_seq (de_var 1))) (fun _ _ _ _ _ _ => (dg_name 6 nd__law_is_cut_right)) (fun _ _ _ _ _ p5 => dxts_lift fun p => dts_nil) (fun _ _ _ _ _ p5 => (dx_cmp (od_gt (u64 room)) (dx_callM 0 (F__law_take W) (room.mono (by decide : 1 ≤ 5)) gd (dxa_cons (dx_lift fun p => de_int) dxa_nil) (hs := by exact ⟨rfl, rfl, trivial⟩)) (dx_lift fun p => de_int))) fun v4 => ?_
  refine db_frz 5 ?_
  refine db_asg 7 nd__law_is_cut_right (de_callT cd_tuple W.n_tuple (daw_cons (DE.w (DF.e (df_lc [("tick", 6), ("mark", 8)] rfl nd__law_is_cut_right (di_zip2 W.n_zip (da_cons (de_var 1) (da_cons (de_var 5) da_nil))) (fun _ _ _ _ _ => (dg_tup2 rfl (dg_name 6 nd__law_is_cut_right) fun _ => (dg_name 8 nd__law_is_cut_right))) (fun _ _ _ _ _ p7 => dts_one (dt_val (de_var 8))) (fun _ _ _ _ _ p7 => (de_var 6))))) daw_nil) (hs := by exact ⟨rfl, trivial⟩)) fun v6 => ?_
  refine db_setLc 9 [("tick", 6), ("mark", 8)] rfl nd__law_is_cut_right (di_zip2 W.n_zip (da_cons (de_var 3) (da_cons (de_var 5) da_nil))) (fun _ _ _ _ _ => (dg_tup2 rfl (dg_name 6 nd__law_is_cut_right) fun _ => (dg_name 8 nd__law_is_cut_right))) (fun _ _ _ _ _ p9 => dts_one (dt_val (de_var 8))) (fun _ _ _ _ _ p9 => (de_var 6)) fun v8 => ?_
  refine db_frz 9 ?_
  refine db_ifr (dt_not (dt_val (de_callB (cd_all rfl) W.n_all (daw_cons (DE.w (DF.e (df_lc [("tick", 6), ("its", 10)] rfl nd__law_is_cut_right (di_zip2 W.n_zip (da_cons (de_call (F_through_all W) (room.mono (by decide : 5 ≤ 5)) gd (da_cons (de_var 7) (da_cons (de_var 2) da_nil)) (hs := by exact ⟨rfl, rfl, trivial⟩)) (da_cons (de_var 9) da_nil))) (fun _ _ _ _ _ => (dg_tup2 rfl (dg_name 6 nd__law_is_cut_right) fun _ => (dg_name 10 nd__law_is_cut_right))) (fun _ _ _ _ _ p11 => dts_nil) (fun _ _ _ _ _ p11 => (de_cmp (od_le (u64 room)) (DE.w (de_var 6)) (DE.w (de_var 10))))))) daw_nil) (hs := by exact ⟨rfl, trivial⟩)))) ?_ ?_
  · exact db_ret de_bool (rkm rfl)
  refine db_for (P := D) (fun l12 : Unit => [.own v4.2, .imm x_row, .imm x_buckets, .imm v1, .imm v2.1, .imm ((.list v4.1)), .any, .imm v6, .any, .imm ((.list v8)), .any, .any, .any, .any, .any, .any]) () rfl rfl (di_seq (de_var 2)) ⟨.inl rfl, .inl rfl, .inl rfl, .inl rfl, .inl rfl, .inl rfl, .inr rfl, .inl rfl, .inr rfl, .inl rfl, .inr rfl, .inr rfl, .inr rfl, .inr rfl, .inr rfl, .inr rfl, trivial⟩ (fun l12 => (dg_name 11 nd__law_is_cut_right)) (fun l12 p13 => ?_) fun l12 => ?_
  · unfold L1__law_is_cut_right
    refine db_ifr (DTw.t (dw_or (DTw.t (dw_and (dt_cmp (od_eq (u64 room)) (DE.w (de_call (F_fits W) (room.mono (by decide : 5 ≤ 5)) gd (da_cons (de_var 1) (da_cons (de_var 11) da_nil)) (hs := by exact ⟨rfl, rfl, trivial⟩))) (DE.w (de_tup (da_cons de_str da_nil) (hs := by exact ⟨rfl, trivial⟩)))) (dw_and1 (dt_cmp (od_ne (u64 room)) (DE.w (de_call (F_fits W) (room.mono (by decide : 5 ≤ 5)) gd (da_cons (de_var 7) (da_cons (de_var 11) da_nil)) (hs := by exact ⟨rfl, rfl, trivial⟩))) (DE.w (de_tup (da_cons de_str da_nil) (hs := by exact ⟨rfl, trivial⟩))))))) (dw_or1 (dt_cmp (od_ne (u64 room)) (DE.w (de_call (F_fits W) (room.mono (by decide : 5 ≤ 5)) gd (da_cons (de_var 3) (da_cons (de_var 11) da_nil)) (hs := by exact ⟨rfl, rfl, trivial⟩))) (DE.w (de_tup (da_cons de_str da_nil) (hs := by exact ⟨rfl, trivial⟩))))))) ?_ ?_
    · exact db_ret de_bool (rkm rfl)
    refine db_ifr (DTw.t (dw_and (dt_cmp (od_gt (u64 room)) (DE.w (de_call (F_least_burst W) (room.mono (by decide : 4 ≤ 5)) gd (da_cons (de_var 7) (da_cons (de_ix (DE.w (de_var 11)) (DE.w de_int)) da_nil)) (hs := by exact ⟨rfl, rfl, trivial⟩))) (DE.w (de_call (F_least_burst W) (room.mono (by decide : 4 ≤ 5)) gd (da_cons (de_var 1) (da_cons (de_ix (DE.w (de_var 11)) (DE.w de_int)) da_nil)) (hs := by exact ⟨rfl, rfl, trivial⟩)))) (dw_and1 (dt_cmp (od_ne (u64 room)) (DE.w (de_var 7)) (DE.w (de_tup da_nil (hs := by exact trivial))))))) ?_ ?_
    · exact db_ret de_bool (rkm rfl)
    exact db_nil () ⟨.inl rfl, .inl rfl, .inl rfl, .inl rfl, .inl rfl, .inl rfl, .inr rfl, .inl rfl, .inr rfl, .inl rfl, .inr rfl, .inr rfl, .inr rfl, .inr rfl, .inr rfl, .inr rfl, trivial⟩
  refine db_unp (de_ix (DE.w (de_var 2)) (DE.w de_int)) (dg_tup2 rfl (dg_name 12 nd__law_is_cut_right) fun _ => (dg_name 13 nd__law_is_cut_right)) fun v18 => ?_
  refine dbx_asg (G := fun p => [.own p, .imm x_row, .imm x_buckets, .imm v1, .imm v2.1, .imm ((.list v4.1)), .any, .imm v6, .any, .imm ((.list v8)), .any, .any, .imm v18.1, .imm v18.2, .any, .any]) (t := v4.2) .imm 14 nd__law_is_cut_right (dxk_imm (dx_tup (dxa_cons (dx_plus (dx_lift fun p => (de_var 12)) (dx_callT cd_int W.n_int (dxa_cons (dx_callM 0 (F__law_take W) (room.mono (by decide : 1 ≤ 5)) gd (dxa_cons (dx_lift fun p => de_int) dxa_nil) (hs := by exact ⟨rfl, rfl, trivial⟩)) dxa_nil) (hs := by exact ⟨rfl, trivial⟩))) (dxa_cons (dx_callB (cd_max rfl (u100 room)) W.n_max (dxa_cons (dx_lift fun p => de_int) (dxa_cons (dx_op od_sub (dx_lift fun p => (de_var 13)) (dx_callT cd_int W.n_int (dxa_cons (dx_callM 0 (F__law_take W) (room.mono (by decide : 1 ≤ 5)) gd (dxa_cons (dx_lift fun p => de_int) dxa_nil) (hs := by exact ⟨rfl, rfl, trivial⟩)) dxa_nil) (hs := by exact ⟨rfl, trivial⟩))) dxa_nil)) (hs := by exact ⟨rfl, rfl, trivial⟩)) dxa_nil)) (hs := by exact ⟨rfl, rfl, trivial⟩))) fun v19 => ?_
  refine db_ifr (DTw.t (dw_or (dt_cmp (od_ne (u64 room)) (DE.w (de_callB (cd_repr gd (u100 room)) W.n_repr (daw_cons (DE.w (de_call (F_through_all W) (room.mono (by decide : 5 ≤ 5)) gd (da_cons (de_var 1) (da_cons (de_plus (DE.w (de_var 2)) (DE.w (de_tup (da_cons (de_var 14) da_nil) (hs := by exact ⟨rfl, trivial⟩)))) da_nil)) (hs := by exact ⟨rfl, rfl, trivial⟩))) daw_nil) (hs := by exact ⟨rfl, trivial⟩))) (DE.w (de_callB (cd_repr gd (u100 room)) W.n_repr (daw_cons (DE.w (de_var 3)) daw_nil) (hs := by exact ⟨rfl, trivial⟩)))) (dw_or1 (dt_cmp (od_ne (u64 room)) (DE.w (de_callB (cd_repr gd (u100 room)) W.n_repr (daw_cons (DE.w (de_call (F_through_all W) (room.mono (by decide : 5 ≤ 5)) gd (da_cons (de_var 1) (da_cons (de_plus (DE.w (de_tup (da_cons (de_var 14) da_nil) (hs := by exact ⟨rfl, trivial⟩))) (DE.w (de_var 2))) da_nil)) (hs := by exact ⟨rfl, rfl, trivial⟩))) daw_nil) (hs := by exact ⟨rfl, trivial⟩))) (DE.w (de_callB (cd_repr gd (u100 room)) W.n_repr (daw_cons (DE.w (de_var 3)) daw_nil) (hs := by exact ⟨rfl, trivial⟩))))))) ?_ ?_
  · exact db_ret de_bool (rkm rfl)
  refine dbx_asg (G := fun p => [.own p, .imm x_row, .imm x_buckets, .imm v1, .imm v2.1, .imm ((.list v4.1)), .any, .imm v6, .any, .imm ((.list v8)), .any, .any, .imm v18.1, .imm v18.2, .imm v19.1, .any]) (t := v19.2) .imm 15 nd__law_is_cut_right (dxk_imm (dx_callT cd_int W.n_int (dxa_cons (dx_callM 0 (F__law_take W) (room.mono (by decide : 1 ≤ 5)) gd (dxa_cons (dx_lift fun p => de_int) dxa_nil) (hs := by exact ⟨rfl, rfl, trivial⟩)) dxa_nil) (hs := by exact ⟨rfl, trivial⟩))) fun v21 => ?_
  exact db_ret (de_cmp (od_eq (u64 room)) (DE.w (de_callB (cd_repr gd (u100 room)) W.n_repr (daw_cons (DE.w (de_call (F_through_all W) (room.mono (by decide : 5 ≤ 5)) gd (da_cons (de_call (F__law_later W) (room.mono (by decide : 1 ≤ 5)) gd (da_cons (de_var 1) (da_cons (de_var 15) da_nil)) (hs := by exact ⟨rfl, rfl, trivial⟩)) (da_cons (de_var 2) da_nil)) (hs := by exact ⟨rfl, rfl, trivial⟩))) daw_nil) (hs := by exact ⟨rfl, trivial⟩))) (DE.w (de_callB (cd_repr gd (u100 room)) W.n_repr (daw_cons (DE.w (de_call (F__law_later W) (room.mono (by decide : 1 ≤ 5)) gd (da_cons (de_var 3) (da_cons (de_var 15) da_nil)) (hs := by exact ⟨rfl, rfl, trivial⟩))) daw_nil) (hs := by exact ⟨rfl, trivial⟩)))) (rkm rfl)
theorem F__law_is_cut_right (W : Wd K mg) : CalG P w K mg base 6 "_law_is_cut_right" (spM K g__law_is_cut_right) :=
  calM W.d__law_is_cut_right sc__law_is_cut_right (fun _ _ _ _ _ _ us hl => match us, hl with | [_, _, _], _ => rfl) (by decide) b__law_is_cut_right (fun qs ds o h => by unfold b__law_is_cut_right at h; split at h <;> first | rfl | cases h)
    fun f cdv A outer s H a qs ds hl room gd => match ds, hl with | [x_row, x_buckets], _ => w__law_is_cut_right W room gd qs x_row x_buckets
abbrev nm__law_right : List Str := ["pot", "one", "other", "bucket", "buckets"]
theorem nd__law_right : nm__law_right.Nodup := by decide +kernel
theorem sc__law_right : FnScope nm__law_right ["pot"] (defScope (top 36)) := C8.fnScope_by (by decide +kernel)
theorem w__law_right (W : Wd K mg) {f : Addr} {cdv : Value} {A : Around} {outer : List Env} {s : Shared} {H : Hp} {a : Addr} (room : Room 6 (A.deeper (envOfC "_law_right" (defScope (top 36)) s.heap.objs.size f cdv))) (gd : A.guards = some []) (x_pot : List D) :
    DB (BX P w K mg base nm__law_right "_law_right" (defScope (top 36)) f cdv A outer s H) ⟨H, [(0, a)]⟩ (fun qs : List D => [.own qs, .any, .any, .any, .any]) GE (RKm K H a) [.own x_pot, .any, .any, .any, .any] (defBody (top 36)) (B__law_right x_pot) := by
  unfold B__law_right
  refine dbx_par3 (G := fun p => [.own p, .any, .any, .any, .any]) (t := x_pot) .imm .imm .imm 1 2 3 rfl nd__law_right (dxk_imm (dx_callM 0 (F__law_row W) (room.mono (by decide : 3 ≤ 6)) gd (dxa_cons (dx_lift fun p => de_int) dxa_nil) (hs := by exact ⟨rfl, rfl, trivial⟩))) (dxk_imm (dx_callM 0 (F__law_row W) (room.mono (by decide : 3 ≤ 6)) gd (dxa_cons (dx_lift fun p => de_int) dxa_nil) (hs := by exact ⟨rfl, rfl, trivial⟩))) (dxk_imm (dx_callM 0 (F__law_bucket W) (room.mono (by decide : 3 ≤ 6)) gd dxa_nil (hs := by exact ⟨rfl, trivial⟩))) fun v1 => ?_
  refine dbx_ifr (G := fun p => [.own p, .imm v1.1.1, .imm v1.1.2.1, .imm v1.1.2.2, .any]) (t := v1.2) (dxt_not (dxt_val (dx_callM 0 (F__law_are_two_right W) (room.mono (by decide : 6 ≤ 6)) gd (dxa_cons (dx_lift fun p => (de_var 1)) (dxa_cons (dx_lift fun p => (de_var 2)) (dxa_cons (dx_lift fun p => (de_var 3)) dxa_nil))) (hs := by exact ⟨rfl, rfl, rfl, rfl, trivial⟩)))) (fun q2 => ?_) fun q2 => ?_
  · exact db_ret de_bool (rkm rfl)
  refine dbx_asg (G := fun p => [.own p, .imm v1.1.1, .imm v1.1.2.1, .imm v1.1.2.2, .any]) (t := q2.2) .imm 4 nd__law_right (dxk_imm (dx_slT (dx_tup (dxa_cons (dx_lift fun p => (de_var 3)) (dxa_cons (dx_callM 0 (F__law_bucket W) (room.mono (by decide : 3 ≤ 6)) gd dxa_nil (hs := by exact ⟨rfl, trivial⟩)) dxa_nil)) (hs := by exact ⟨rfl, rfl, trivial⟩)) .no (.yes (dx_plus (dx_lift fun p => de_int) (dx_callM 0 (F__law_take W) (room.mono (by decide : 1 ≤ 6)) gd (dxa_cons (dx_lift fun p => de_int) dxa_nil) (hs := by exact ⟨rfl, rfl, trivial⟩)))))) fun v3 => ?_
  exact dbx_ret (G := fun p => [.own p, .imm v1.1.1, .imm v1.1.2.1, .imm v1.1.2.2, .imm v3.1]) (t := v3.2) (dx_and (dx_callM 0 (F__law_is_cut_right W) (room.mono (by decide : 6 ≤ 6)) gd (dxa_cons (dx_lift fun p => (de_var 1)) (dxa_cons (dx_lift fun p => (de_var 4)) dxa_nil)) (hs := by exact ⟨rfl, rfl, rfl, trivial⟩)) (dx_and (dx_lift fun p => (de_cmp (od_eq (u64 room)) (DE.w (de_call (F_through_all W) (room.mono (by decide : 5 ≤ 6)) gd (da_cons (de_tup da_nil (hs := by exact trivial)) (da_cons (de_var 4) da_nil)) (hs := by exact ⟨rfl, rfl, trivial⟩))) (DE.w (de_tup da_nil (hs := by exact trivial))))) (dx_one (dx_lift fun p => (de_cmp (od_eq (u64 room)) (DE.w (de_call (F_longest_wait W) (room.mono (by decide : 5 ≤ 6)) gd (da_cons (de_tup da_nil (hs := by exact trivial)) (da_cons (de_var 3) da_nil)) (hs := by exact ⟨rfl, rfl, trivial⟩))) (DE.w de_int)))))) fun d _ => rkm rfl d
theorem F__law_right (W : Wd K mg) : CalG P w K mg base 7 "_law_right" (spM K g__law_right) :=
  calM W.d__law_right sc__law_right (fun _ _ _ _ _ _ us hl => match us, hl with | [_], _ => rfl) (by decide) b__law_right (fun qs ds o h => by unfold b__law_right at h; split at h <;> first | rfl | cases h)
    fun f cdv A outer s H a qs ds hl room gd => match ds, hl with | [], _ => w__law_right W room gd qs 
abbrev nm_law : List Str := ["script", "place"]
theorem nd_law : nm_law.Nodup := by decide +kernel
theorem sc_law : FnScope nm_law ["script"] (defScope (top 37)) := C8.fnScope_by (by decide +kernel)
theorem w_law (W : Wd K mg) {f : Addr} {cdv : Value} {A : Around} {outer : List Env} {s : Shared} {H : Hp} (room : Room 7 (A.deeper (envOfC "law" (defScope (top 37)) s.heap.objs.size f cdv))) (gd : A.guards = some []) (x_script : D) :
    DB (BX P w K mg base nm_law "law" (defScope (top 37)) f cdv A outer s H) ⟨H, []⟩ (fun _ : Unit => [.any, .any]) GE (RKp K H) [.imm x_script, .any] (defBody (top 37)) (B_law x_script) := by
  unfold B_law
  exact db_ret (de_callB (cd_all rfl) W.n_all (daw_cons (DE.w (DF.e (df_lc [("place", 1)] rfl nd_law (di_seq (DF.e (df_call (F__law_cells W) (room.mono (by decide : 1 ≤ 7)) gd (da_cons (de_var 0) (da_cons de_int da_nil)) (hs := by exact ⟨rfl, rfl, trivial⟩)))) (fun _ _ _ _ _ => (dg_name 1 nd_law)) (fun _ _ _ _ _ p1 => dts_nil) (fun _ _ _ _ _ p1 => (de_callN (F__law_right W) (room.mono (by decide : 7 ≤ 7)) gd (df_call (F__law_pot W) (room.mono (by decide : 1 ≤ 7)) gd (da_cons (de_var 0) (da_cons (de_var 1) da_nil)) (hs := by exact ⟨rfl, rfl, trivial⟩)) da_nil (hs := by exact ⟨rfl, trivial⟩)))))) daw_nil) (hs := by exact ⟨rfl, trivial⟩)) rkp
theorem F_law (W : Wd K mg) : CalG P w K mg base 8 "law" (spP K g_law) :=
  calP W.d_law sc_law (fun _ _ _ _ _ _ us hl => match us, hl with | [_], _ => rfl) (by decide) b_law (fun ds o h => by unfold b_law at h; split at h <;> first | rfl | cases h)
    fun f cdv A outer s H ds hl room gd => match ds, hl with | [x_script], _ => w_law W room gd x_script
end
end DL

set_option Elab.async false
set_option linter.all false
set_option maxRecDepth 100000
set_option maxHeartbeats 0
set_option autoImplicit false
namespace DL
open PySem PySem.Spec PyProof.Rows L2
def d_is_int : He.DefD := ⟨("is_int", none), "is_int", "is_int", defArgs (top 5), defBody (top 5), defScope (top 5), [], []⟩
def d_are_ints : He.DefD := ⟨("are_ints", none), "are_ints", "are_ints", defArgs (top 6), defBody (top 6), defScope (top 6), [], []⟩
def d_is_bucket : He.DefD := ⟨("is_bucket", none), "is_bucket", "is_bucket", defArgs (top 13), defBody (top 13), defScope (top 13), [], []⟩
def d_are_buckets : He.DefD := ⟨("are_buckets", none), "are_buckets", "are_buckets", defArgs (top 14), defBody (top 14), defScope (top 14), [], []⟩
def d_are_arrivals : He.DefD := ⟨("are_arrivals", none), "are_arrivals", "are_arrivals", defArgs (top 15), defBody (top 15), defScope (top 15), [], []⟩
def d_look_at_both : He.DefD := ⟨("look_at_both", none), "look_at_both", "look_at_both", defArgs (top 16), defBody (top 16), defScope (top 16), [], []⟩
def d_most_within : He.DefD := ⟨("most_within", none), "most_within", "most_within", defArgs (top 17), defBody (top 17), defScope (top 17), [], []⟩
def d_told_crowd : He.DefD := ⟨("told_crowd", none), "told_crowd", "told_crowd", defArgs (top 18), defBody (top 18), defScope (top 18), [], []⟩
def d_fits : He.DefD := ⟨("fits", none), "fits", "fits", defArgs (top 19), defBody (top 19), defScope (top 19), [], []⟩
def d_told_held : He.DefD := ⟨("told_held", none), "told_held", "told_held", defArgs (top 20), defBody (top 20), defScope (top 20), [], []⟩
def d_held_back : He.DefD := ⟨("held_back", none), "held_back", "held_back", defArgs (top 21), defBody (top 21), defScope (top 21), [], []⟩
def d_longest_wait : He.DefD := ⟨("longest_wait", none), "longest_wait", "longest_wait", defArgs (top 22), defBody (top 22), defScope (top 22), [], []⟩
def d_through_all : He.DefD := ⟨("through_all", none), "through_all", "through_all", defArgs (top 23), defBody (top 23), defScope (top 23), [], []⟩
def d_least_burst : He.DefD := ⟨("least_burst", none), "least_burst", "least_burst", defArgs (top 24), defBody (top 24), defScope (top 24), [], []⟩
def d__law_pot : He.DefD := ⟨("_law_pot", none), "_law_pot", "_law_pot", defArgs (top 26), defBody (top 26), defScope (top 26), [], []⟩
def d__law_take : He.DefD := ⟨("_law_take", none), "_law_take", "_law_take", defArgs (top 27), defBody (top 27), defScope (top 27), [], []⟩
def d__law_of : He.DefD := ⟨("_law_of", none), "_law_of", "_law_of", defArgs (top 28), defBody (top 28), defScope (top 28), [], []⟩
def d__law_cells : He.DefD := ⟨("_law_cells", none), "_law_cells", "_law_cells", defArgs (top 29), defBody (top 29), defScope (top 29), [], []⟩
def d__law_row : He.DefD := ⟨("_law_row", none), "_law_row", "_law_row", defArgs (top 30), defBody (top 30), defScope (top 30), [], []⟩
def d__law_bucket : He.DefD := ⟨("_law_bucket", none), "_law_bucket", "_law_bucket", defArgs (top 31), defBody (top 31), defScope (top 31), [], []⟩
def d__law_later : He.DefD := ⟨("_law_later", none), "_law_later", "_law_later", defArgs (top 32), defBody (top 32), defScope (top 32), [], []⟩
def d__law_gone : He.DefD := ⟨("_law_gone", none), "_law_gone", "_law_gone", defArgs (top 33), defBody (top 33), defScope (top 33), [], []⟩
def d__law_are_two_right : He.DefD := ⟨("_law_are_two_right", none), "_law_are_two_right", "_law_are_two_right", defArgs (top 34), defBody (top 34), defScope (top 34), [], []⟩
def d__law_is_cut_right : He.DefD := ⟨("_law_is_cut_right", none), "_law_is_cut_right", "_law_is_cut_right", defArgs (top 35), defBody (top 35), defScope (top 35), [], []⟩
def d__law_right : He.DefD := ⟨("_law_right", none), "_law_right", "_law_right", defArgs (top 36), defBody (top 36), defScope (top 36), [], []⟩
def d_law : He.DefD := ⟨("law", none), "law", "law", defArgs (top 37), defBody (top 37), defScope (top 37), [], []⟩
def hfn : List He.DefD := [d_is_int, d_are_ints, d_is_bucket, d_are_buckets, d_are_arrivals, d_look_at_both, d_most_within, d_told_crowd, d_fits, d_told_held, d_held_back, d_longest_wait, d_through_all, d_least_burst, d__law_pot, d__law_take, d__law_of, d__law_cells, d__law_row, d__law_bucket, d__law_later, d__law_gone, d__law_are_two_right, d__law_is_cut_right, d__law_right, d_law]
def hfa : List He.Fa := [.glo "is_int", .glo "are_ints", .glo "is_bucket", .glo "are_buckets", .glo "are_arrivals", .glo "look_at_both", .glo "most_within", .glo "told_crowd", .glo "fits", .glo "told_held", .glo "held_back", .glo "longest_wait", .glo "through_all", .glo "least_burst", .glo "_law_pot", .glo "_law_take", .glo "_law_of", .glo "_law_cells", .glo "_law_row", .glo "_law_bucket", .glo "_law_later", .glo "_law_gone", .glo "_law_are_two_right", .glo "_law_is_cut_right", .glo "_law_right", .glo "law", .free "abs", .free "all", .free "bool", .free "enumerate", .free "int", .free "isinstance", .free "len", .free "list", .free "max", .free "min", .free "range", .free "repr", .free "sum", .free "tuple", .free "zip", .str "CROWD" "crowd", .str "FITS" "fits", .int "MOST_BUCKETS" (6), .int "MOST_LETTERS" (200), .int "MOST_TICK" (1000000)]
def hloose : List PySem.Str := (["__name__", "HoleError", "BadArrivals", "BadBuckets", "is_int", "are_ints", "MOST_LETTERS", "MOST_TICK", "MOST_BUCKETS", "FITS", "CROWD", "is_bucket", "are_buckets", "are_arrivals", "look_at_both", "most_within", "told_crowd", "fits", "told_held", "held_back", "longest_wait", "through_all", "least_burst", "_law_pot", "_law_take", "_law_of", "_law_cells", "_law_row", "_law_bucket", "_law_later"] : List PySem.Str) ++ (["_law_gone", "_law_are_two_right", "_law_is_cut_right", "_law_right"] : List PySem.Str)
abbrev hR : PySem.W.OpenRow := PySem.W.OpenLaw.row PySem.Challenge.rw_holesheldopen_k61_whole_arrivals_far_apa
abbrev hHk : PySem.W.Hook := He.hookD 4 hfa hfn
def hob (s : PySem.W.SharedT) : He.AlD := He.obsDG 4 hfa hfn (HandSHeadRun.getT s)
theorem hob_eq (s : PySem.W.SharedT) : hob s = hHk.obs s.abs := He.obsDG_eq (HandSHeadRun.getT_eq s)
theorem hrun (w : World) : HandSHeadRun.RunEq hR (PySem.W.view hR.prog [37]) hHk hob 2000 hloose w := by
  intro os
  kernel_rfl
theorem wd_of {K : PySem.W.Frag} {h : Heap} {mg : Str → Option Value} (X : K.In h) (G : h.Ns mainGlobals mg) (c : He.SaysD hfa hfn K) : Wd K mg := by
  constructor
  · obtain ⟨fd, F⟩ := c.def_ 0 (d := d_is_int) rfl
    exact ⟨_, fd, F, He.glo_ok X G (c.fact 0 (f := .glo "is_int") rfl)⟩
  · obtain ⟨fd, F⟩ := c.def_ 1 (d := d_are_ints) rfl
    exact ⟨_, fd, F, He.glo_ok X G (c.fact 1 (f := .glo "are_ints") rfl)⟩
  · obtain ⟨fd, F⟩ := c.def_ 2 (d := d_is_bucket) rfl
    exact ⟨_, fd, F, He.glo_ok X G (c.fact 2 (f := .glo "is_bucket") rfl)⟩
  · obtain ⟨fd, F⟩ := c.def_ 3 (d := d_are_buckets) rfl
    exact ⟨_, fd, F, He.glo_ok X G (c.fact 3 (f := .glo "are_buckets") rfl)⟩
  · obtain ⟨fd, F⟩ := c.def_ 4 (d := d_are_arrivals) rfl
    exact ⟨_, fd, F, He.glo_ok X G (c.fact 4 (f := .glo "are_arrivals") rfl)⟩
  · obtain ⟨fd, F⟩ := c.def_ 5 (d := d_look_at_both) rfl
    exact ⟨_, fd, F, He.glo_ok X G (c.fact 5 (f := .glo "look_at_both") rfl)⟩
  · obtain ⟨fd, F⟩ := c.def_ 6 (d := d_most_within) rfl
    exact ⟨_, fd, F, He.glo_ok X G (c.fact 6 (f := .glo "most_within") rfl)⟩
  · obtain ⟨fd, F⟩ := c.def_ 7 (d := d_told_crowd) rfl
    exact ⟨_, fd, F, He.glo_ok X G (c.fact 7 (f := .glo "told_crowd") rfl)⟩
  · obtain ⟨fd, F⟩ := c.def_ 8 (d := d_fits) rfl
    exact ⟨_, fd, F, He.glo_ok X G (c.fact 8 (f := .glo "fits") rfl)⟩
  · obtain ⟨fd, F⟩ := c.def_ 9 (d := d_told_held) rfl
    exact ⟨_, fd, F, He.glo_ok X G (c.fact 9 (f := .glo "told_held") rfl)⟩
  · obtain ⟨fd, F⟩ := c.def_ 10 (d := d_held_back) rfl
    exact ⟨_, fd, F, He.glo_ok X G (c.fact 10 (f := .glo "held_back") rfl)⟩
  · obtain ⟨fd, F⟩ := c.def_ 11 (d := d_longest_wait) rfl
    exact ⟨_, fd, F, He.glo_ok X G (c.fact 11 (f := .glo "longest_wait") rfl)⟩
  · obtain ⟨fd, F⟩ := c.def_ 12 (d := d_through_all) rfl
    exact ⟨_, fd, F, He.glo_ok X G (c.fact 12 (f := .glo "through_all") rfl)⟩
  · obtain ⟨fd, F⟩ := c.def_ 13 (d := d_least_burst) rfl
    exact ⟨_, fd, F, He.glo_ok X G (c.fact 13 (f := .glo "least_burst") rfl)⟩
  · obtain ⟨fd, F⟩ := c.def_ 14 (d := d__law_pot) rfl
    exact ⟨_, fd, F, He.glo_ok X G (c.fact 14 (f := .glo "_law_pot") rfl)⟩
  · obtain ⟨fd, F⟩ := c.def_ 15 (d := d__law_take) rfl
    exact ⟨_, fd, F, He.glo_ok X G (c.fact 15 (f := .glo "_law_take") rfl)⟩
  · obtain ⟨fd, F⟩ := c.def_ 16 (d := d__law_of) rfl
    exact ⟨_, fd, F, He.glo_ok X G (c.fact 16 (f := .glo "_law_of") rfl)⟩
  · obtain ⟨fd, F⟩ := c.def_ 17 (d := d__law_cells) rfl
    exact ⟨_, fd, F, He.glo_ok X G (c.fact 17 (f := .glo "_law_cells") rfl)⟩
  · obtain ⟨fd, F⟩ := c.def_ 18 (d := d__law_row) rfl
    exact ⟨_, fd, F, He.glo_ok X G (c.fact 18 (f := .glo "_law_row") rfl)⟩
  · obtain ⟨fd, F⟩ := c.def_ 19 (d := d__law_bucket) rfl
    exact ⟨_, fd, F, He.glo_ok X G (c.fact 19 (f := .glo "_law_bucket") rfl)⟩
  · obtain ⟨fd, F⟩ := c.def_ 20 (d := d__law_later) rfl
    exact ⟨_, fd, F, He.glo_ok X G (c.fact 20 (f := .glo "_law_later") rfl)⟩
  · obtain ⟨fd, F⟩ := c.def_ 21 (d := d__law_gone) rfl
    exact ⟨_, fd, F, He.glo_ok X G (c.fact 21 (f := .glo "_law_gone") rfl)⟩
  · obtain ⟨fd, F⟩ := c.def_ 22 (d := d__law_are_two_right) rfl
    exact ⟨_, fd, F, He.glo_ok X G (c.fact 22 (f := .glo "_law_are_two_right") rfl)⟩
  · obtain ⟨fd, F⟩ := c.def_ 23 (d := d__law_is_cut_right) rfl
    exact ⟨_, fd, F, He.glo_ok X G (c.fact 23 (f := .glo "_law_is_cut_right") rfl)⟩
  · obtain ⟨fd, F⟩ := c.def_ 24 (d := d__law_right) rfl
    exact ⟨_, fd, F, He.glo_ok X G (c.fact 24 (f := .glo "_law_right") rfl)⟩
  · obtain ⟨fd, F⟩ := c.def_ 25 (d := d_law) rfl
    exact ⟨_, fd, F, He.glo_ok X G (c.fact 25 (f := .glo "law") rfl)⟩
  · exact He.free_ok X G (c.fact 26 (f := .free "abs") rfl)
  · exact He.free_ok X G (c.fact 27 (f := .free "all") rfl)
  · exact He.free_ok X G (c.fact 28 (f := .free "bool") rfl)
  · exact He.free_ok X G (c.fact 29 (f := .free "enumerate") rfl)
  · exact He.free_ok X G (c.fact 30 (f := .free "int") rfl)
  · exact He.free_ok X G (c.fact 31 (f := .free "isinstance") rfl)
  · exact He.free_ok X G (c.fact 32 (f := .free "len") rfl)
  · exact He.free_ok X G (c.fact 33 (f := .free "list") rfl)
  · exact He.free_ok X G (c.fact 34 (f := .free "max") rfl)
  · exact He.free_ok X G (c.fact 35 (f := .free "min") rfl)
  · exact He.free_ok X G (c.fact 36 (f := .free "range") rfl)
  · exact He.free_ok X G (c.fact 37 (f := .free "repr") rfl)
  · exact He.free_ok X G (c.fact 38 (f := .free "sum") rfl)
  · exact He.free_ok X G (c.fact 39 (f := .free "tuple") rfl)
  · exact He.free_ok X G (c.fact 40 (f := .free "zip") rfl)
  · exact He.str_ok X G (c.fact 41 (f := .str "CROWD" "crowd") rfl)
  · exact He.str_ok X G (c.fact 42 (f := .str "FITS" "fits") rfl)
  · exact He.int_ok X G (c.fact 43 (f := .int "MOST_BUCKETS" (6)) rfl)
  · exact He.int_ok X G (c.fact 44 (f := .int "MOST_LETTERS" (200)) rfl)
  · exact He.int_ok X G (c.fact 45 (f := .int "MOST_TICK" (1000000)) rfl)
end DL
open PySem PySem.W PySem.Calls PyProof.Rows
theorem DL.the_end (hg : ∀ ns : List Int, ns.length ≤ 63 → DL.g_law [.list (ns.map .int)] = some (.bool true)) : PySem.Challenge.rw_holesheldopen_k61_whole_arrivals_far_apa.Holds := by
  w_on; o_law
  refine HandSHeadRun.head_any (r := OpenLaw.row PySem.Challenge.rw_holesheldopen_k61_whole_arrivals_far_apa) (q := view (OpenLaw.row PySem.Challenge.rw_holesheldopen_k61_whole_arrivals_far_apa).prog [37]) (H := DL.hHk) (ob := DL.hob) (M := 2000) (loose := DL.hloose) (d := HandSHeadRun.topDef (OpenLaw.row PySem.Challenge.rw_holesheldopen_k61_whole_arrivals_far_apa).prog 37) (kwd := []) DL.hob_eq
    (by kernel_rfl) (fun s => by kernel_rfl) DL.hrun (by kernel_rfl) (by kernel_rfl) (by kernel_rfl) (by rfl) (by first | assumption | decide +kernel) (by decide +kernel) ⟨rfl, rfl, rfl, rfl, rfl, by decide +kernel⟩ ?hw ?hc
  case hw => w_witness2
  case hc =>
    refine DL.walk_end (l := PySem.Challenge.rw_holesheldopen_k61_whole_arrivals_far_apa) (n := 63) (k := 8) (x := "law") (g := DL.g_law) rfl (by decide) (by kernel_rfl) ⟨rfl, by decide, by decide⟩ (by kernel_rfl) ?F hg
    intro w mg h Y G
    obtain ⟨K, KX, c⟩ := Y
    exact ⟨K, KX, fun base _ _ => DL.F_law (DL.wd_of KX G c)⟩

set_option Elab.async false
set_option linter.all false
set_option maxRecDepth 100000
set_option maxHeartbeats 2000000
set_option autoImplicit false
namespace DL
open PySem PySem.Spec PyProof.Rows L2
/-! ### plain facts about the mirrors' parts -/
@[simp] theorem consO_s (x : D) (xs : List D) : consO (some x) (some xs) = some (x :: xs) := rfl
@[simp] theorem bin_s (g : D → D → Option D) (x y : D) : bin g (some x) (some y) = g x y := rfl
@[simp] theorem lenOk_s {xs : List D} (h : xs.length ≤ 100000) : lenOk (some xs) = some xs := if_pos h
@[simp] theorem andV_t (m : Option D) : andV (some (.bool true)) m = m := rfl
@[simp] theorem andV_f (m : Option D) : andV (some (.bool false)) m = some (.bool false) := rfl
@[simp] theorem orV_t (m : Option D) : orV (some (.bool true)) m = some (.bool true) := rfl
@[simp] theorem orV_f (m : Option D) : orV (some (.bool false)) m = m := rfl
theorem andV_b (a b : Bool) : andV (some (.bool a)) (some (.bool b)) = some (.bool (a && b)) := by cases a <;> rfl
theorem orV_b (a b : Bool) : orV (some (.bool a)) (some (.bool b)) = some (.bool (a || b)) := by cases a <;> rfl
@[simp] theorem notV_s (a : Bool) : notV (some (.bool a)) = some (.bool (!a)) := rfl
@[simp] theorem andT_t (m : Option Bool) : andT (some true) m = m := rfl
@[simp] theorem andT_f (m : Option Bool) : andT (some false) m = some false := rfl
@[simp] theorem orT_t (m : Option Bool) : orT (some true) m = some true := rfl
@[simp] theorem orT_f (m : Option Bool) : orT (some false) m = m := rfl
theorem andT_b (a b : Bool) : andT (some a) (some b) = some (a && b) := by cases a <;> rfl
theorem orT_b (a b : Bool) : orT (some a) (some b) = some (a || b) := by cases a <;> rfl
@[simp] theorem iteO_t {α : Type} (a b : Option α) : iteO (some true) a b = a := rfl
@[simp] theorem iteO_f {α : Type} (a b : Option α) : iteO (some false) a b = b := rfl
theorem iteO_b {α : Type} (t : Bool) (a b : Option α) : iteO (some t) a b = if t then a else b := rfl
@[simp] theorem isB_s (b : Bool) : isB (.bool b) = some b := rfl
@[simp] theorem isI_s (b : Int) : isI (.int b) = some b := rfl
@[simp] theorem finP_rt (d : D) : finP (.rt d) = some d := rfl
@[simp] theorem finP_nx (u : Unit) : finP (.nx u) = some .none := rfl
@[simp] theorem finF_rt (d : List D) : finF (.rt d) = some d := rfl
@[simp] theorem finM_rt (d : D × List D) : finM (.rt d) = some d := rfl
@[simp] theorem finM_nx (d : List D) : finM (.nx d) = some (.none, d) := rfl
@[simp] theorem finMF_rt (d : List D × List D) : finMF (.rt d) = some d := rfl
@[simp] theorem cast_rt {N B R : Type} (r : R) : castFl (N := N) (B := B) (.rt r) = .rt r := rfl
@[simp] theorem cast_bk {N B R : Type} (r : B) : castFl (N := N) (R := R) (.bk r) = .bk r := rfl
@[simp] theorem cast_ct {N B R : Type} (r : B) : castFl (N := N) (R := R) (.ct r) = .ct r := rfl
@[simp] theorem seqFl_nx {N1 N B R : Type} (mr : N1 → Option (Fl N B R)) (n : N1) : seqFl mr (.nx n) = mr n := rfl
@[simp] theorem seqFl_rt {N1 N B R : Type} (mr : N1 → Option (Fl N B R)) (n : R) : seqFl mr (.rt n) = some (.rt n) := rfl
@[simp] theorem seqFl_bk {N1 N B R : Type} (mr : N1 → Option (Fl N B R)) (n : B) : seqFl mr (.bk n) = some (.bk n) := rfl
@[simp] theorem seqFl_ct {N1 N B R : Type} (mr : N1 → Option (Fl N B R)) (n : B) : seqFl mr (.ct n) = some (.ct n) := rfl
@[simp] theorem seqLp_nx {L N B R : Type} (mr : L → Option (Fl N B R)) (n : L) : seqLp mr (.nx n) = mr n := rfl
@[simp] theorem seqLp_rt {L N B R : Type} (mr : L → Option (Fl N B R)) (n : R) : seqLp mr (.rt n) = some (.rt n) := rfl
@[simp] theorem forF_nil {L R : Type} (f : L → D → Option (Fl L L R)) (l : L) : forF f [] l = some (.nx l) := rfl
theorem forF_cons {L R : Type} (f : L → D → Option (Fl L L R)) (x : D) (r : List D) (l : L) : forF f (x :: r) l = (f l x).bind fun o => match o with | .nx l' => forF f r l' | .ct l' => forF f r l' | .bk l' => some (.nx l') | .rt z => some (.rt z) := rfl
@[simp] theorem un2_s {P Q : Type} (p1 : D → Option P) (p2 : D → Option Q) (a b : D) : un2 p1 p2 (.tuple [a, b]) = (p1 a).bind fun u => (p2 b).map fun w => (u, w) := rfl
@[simp] theorem un3_s {P Q R : Type} (p1 : D → Option P) (p2 : D → Option Q) (p3 : D → Option R) (a b c : D) : un3 p1 p2 p3 (.tuple [a, b, c]) = (p1 a).bind fun u => (p2 b).bind fun w => (p3 c).map fun z => (u, w, z) := rfl
@[simp] theorem iterD_l (ds : List D) : iterD (.list ds) = some ds := rfl
@[simp] theorem iterD_t (ds : List D) : iterD (.tuple ds) = some ds := rfl
@[simp] theorem dAdd_ii (a b : Int) : dAdd (.int a) (.int b) = some (.int (a + b)) := rfl
@[simp] theorem dSub_ii (a b : Int) : dSub (.int a) (.int b) = some (.int (a - b)) := rfl
@[simp] theorem dNeg_i (a : Int) : dNeg (.int a) = some (.int (-a)) := rfl
theorem fitsM_of {a : Int} (h : a.natAbs < 2 ^ 1000) : fitsM a = true := cl_iff.mpr h
theorem p60 : (2 : Nat) ^ 60 ≤ 2 ^ 1000 := Nat.pow_le_pow_right (by decide) (by decide)
theorem fitsM_60 {a : Int} (h : a.natAbs < 2 ^ 60) : fitsM a = true := cl_iff.mpr (Nat.lt_of_lt_of_le h p60)
theorem dMul_ii {a b : Int} (ha : a.natAbs < 2 ^ 1000) (hb : b.natAbs < 2 ^ 1000) : dMul (.int a) (.int b) = some (.int (a * b)) := if_pos (show (fitsM a && fitsM b) = true by rw [fitsM_of ha, fitsM_of hb]; rfl)
theorem dMul_60 {a b : Int} (ha : a.natAbs < 2 ^ 60) (hb : b.natAbs < 2 ^ 60) : dMul (.int a) (.int b) = some (.int (a * b)) := dMul_ii (Nat.lt_of_lt_of_le ha p60) (Nat.lt_of_lt_of_le hb p60)
theorem dFdiv_ii {a b : Int} (h : 0 < b) (hb : b.natAbs < 2 ^ 1000) : dFdiv (.int a) (.int b) = some (.int (a / b)) := if_pos (show (decide (0 < b) && fitsM b) = true by rw [fitsM_of hb, decide_eq_true h]; rfl)
theorem dMod_ii {a b : Int} (h : 0 < b) : dMod (.int a) (.int b) = some (.int (a % b)) := if_pos h
theorem dPow_ii {a : Int} {n : Nat} (h : n ≤ 1000) (ha : a.natAbs < 2 ^ 1000) : dPow (.int a) (.int (n : Int)) = some (.int (a ^ n)) :=
  if_pos (show ((cl (0 ≤ (n : Int)) && cl ((n : Int) ≤ 1000)) && fitsM a) = true by rw [fitsM_of ha, cl_iff.mpr (show (0 : Int) ≤ (n : Int) from Int.natCast_nonneg n), cl_iff.mpr (show (n : Int) ≤ 1000 by omega)]; rfl)
/-! comparisons -/
theorem lt_int (a b : Int) : PySem.W.dataLt (.int a) (.int b) = decide (a < b) := PySem.W.dataLt_int a b
theorem ordOk_ii (a b : Int) : ordOk (.int a) (.int b) = true := rfl
@[simp] theorem dLt_ii (a b : Int) : dLt (.int a) (.int b) = some (.bool (decide (a < b))) := by unfold dLt; rw [ordOk_ii, if_pos rfl, lt_int]
@[simp] theorem dLe_ii (a b : Int) : dLe (.int a) (.int b) = some (.bool (decide (a ≤ b))) := by
  unfold dLe
  rw [ordOk_ii, if_pos rfl, lt_int]
  congr 2
  by_cases h : a ≤ b
  · rw [decide_eq_true h, decide_eq_false (by omega)]
    rfl
  · rw [decide_eq_false h, decide_eq_true (by omega)]
    rfl
@[simp] theorem dGt_ii (a b : Int) : dGt (.int a) (.int b) = some (.bool (decide (b < a))) := by unfold dGt; rw [ordOk_ii, if_pos rfl, lt_int]
@[simp] theorem dGe_ii (a b : Int) : dGe (.int a) (.int b) = some (.bool (decide (b ≤ a))) := by
  unfold dGe
  rw [ordOk_ii, if_pos rfl, lt_int]
  congr 2
  by_cases h : b ≤ a
  · rw [decide_eq_true h, decide_eq_false (by omega)]
    rfl
  · rw [decide_eq_false h, decide_eq_true (by omega)]
    rfl
theorem eqv_ii (a b : Int) : PyData.eqv (.int a) (.int b) = decide (a = b) := by
  rw [PyData.eqv]
  by_cases h : a = b
  · simp [h]
  · simp [h]
@[simp] theorem dEq_ii (a b : Int) : dEq (.int a) (.int b) = some (.bool (decide (a = b))) := (if_pos rfl).trans (by rw [eqv_ii])
@[simp] theorem dNe_ii (a b : Int) : dNe (.int a) (.int b) = some (.bool (!decide (a = b))) := (if_pos rfl).trans (by rw [eqv_ii])
theorem eqv_ss (a b : Str) : PyData.eqv (.str a) (.str b) = decide (a = b) := by
  rw [PyData.eqv]
  by_cases h : a = b
  · simp [h]
  · simp [h]
@[simp] theorem dEq_ss (a b : Str) : dEq (.str a) (.str b) = some (.bool (decide (a = b))) := (if_pos rfl).trans (by rw [eqv_ss])
@[simp] theorem dNe_ss (a b : Str) : dNe (.str a) (.str b) = some (.bool (!decide (a = b))) := (if_pos rfl).trans (by rw [eqv_ss])
@[simp] theorem dEq_bb (a b : Bool) : dEq (.bool a) (.bool b) = some (.bool (a == b)) := (if_pos rfl).trans (by rw [PyData.eqv])
@[simp] theorem dNe_bb (a b : Bool) : dNe (.bool a) (.bool b) = some (.bool (!(a == b))) := (if_pos rfl).trans (by rw [PyData.eqv])
/-! ### data without dicts, small leaves -/
mutual
/-- ints below 10 ^ 18, plain texts -/
def nice : D → Bool
  | .none => true
  | .bool _ => true
  | .int i => decide (i.natAbs < 10 ^ 18)
  | .str x => PyData.strOk x && x.cps.toList.all fun c => decide (c < 16 ^ 8)
  | .list xs => niceAll xs
  | .tuple xs => niceAll xs
  | .dict _ => false
def niceAll : List D → Bool
  | [] => true
  | x :: xs => nice x && niceAll xs
end
theorem niceAll_iff {xs : List D} : niceAll xs = true ↔ ∀ x ∈ xs, nice x = true := by
  induction xs with
  | nil => simp [niceAll]
  | cons x r ih => simp [niceAll, ih]
theorem log_of {i : Int} (h : i.natAbs < 10 ^ 18) : i.natAbs.log2 < 1920 := by
  by_cases h0 : i.natAbs = 0
  · rw [h0]
    decide
  · exact (Nat.log2_lt h0).mpr (Nat.lt_of_lt_of_le h (Nat.le_trans (by decide : (10 : Nat) ^ 18 ≤ 2 ^ 60) (Nat.pow_le_pow_right (by decide) (by decide))))
mutual
theorem nice_show : ∀ d : D, nice d = true → d.showable = true ∧ d.hasDict = false ∧ d.leavesShort 19 = true ∧ d.canLay0 = true
  | .none, _ => ⟨rfl, rfl, rfl, rfl⟩
  | .bool _, _ => ⟨rfl, rfl, rfl, rfl⟩
  | .int i, h => by
    have h' : i.natAbs < 10 ^ 18 := of_decide_eq_true h
    refine ⟨decide_eq_true (log_of h'), rfl, decide_eq_true ?_, rfl⟩
    have q := int_text_length_le10 (a := i) (k := 18) (by decide) h'
    show (Str.ofString (toString i)).length ≤ 19
    rw [PySem.ofString_length]
    exact q
  | .str x, h => by
    obtain ⟨h1, h2⟩ := Bool.and_eq_true_iff.mp h
    exact ⟨rfl, rfl, h2, h1⟩
  | .list xs, h => niceAll_show xs h
  | .tuple xs, h => niceAll_show xs h
  | .dict _, h => by cases h
theorem niceAll_show : ∀ xs : List D, niceAll xs = true → PyData.showableAll xs = true ∧ PyData.hasDictAll xs = false ∧ PyData.leavesShortAll 19 xs = true ∧ PyData.canLayAll0 xs = true
  | [], _ => ⟨rfl, rfl, rfl, rfl⟩
  | x :: xs, h => by
    obtain ⟨h1, h2⟩ := Bool.and_eq_true_iff.mp h
    obtain ⟨a1, a2, a3, a4⟩ := nice_show x h1
    obtain ⟨b1, b2, b3, b4⟩ := niceAll_show xs h2
    refine ⟨?_, ?_, ?_, ?_⟩
    · rw [PyData.showableAll, a1, b1]; rfl
    · rw [PyData.hasDictAll, a2, b2]; rfl
    · rw [PyData.leavesShortAll, a3, b3]; rfl
    · rw [PyData.canLayAll0, a4, b4]; rfl
end
theorem repr_nice {d : D} (h : nice d = true) (hd : d.depth ≤ 64) (hb : d.bulk ≤ 40000) : dRepr [d] = some (.str d.shown) := by
  obtain ⟨h1, h2, h3, _⟩ := nice_show d h
  have q := PyData.shown_le_bulk 19 (by decide) d h3
  refine if_pos ?_
  rw [h1, h2, decide_eq_true (show d.shown.length ≤ 1000000 by omega), decide_eq_true hd]
  rfl
theorem shaped_nice {d : D} (h : nice d = true) (hd : d.depth ≤ 64) : SeqAt.shaped d = true := by
  unfold SeqAt.shaped
  rw [(nice_show d h).2.2.2, decide_eq_true hd]
  rfl
theorem dEq_nice {a b : D} (ha : nice a = true) (hb : nice b = true) (da : a.depth ≤ 64) (db : b.depth ≤ 64) : dEq a b = some (.bool (PyData.eqv a b)) := if_pos (by rw [shaped_nice ha da, shaped_nice hb db]; simp)
theorem dNe_nice {a b : D} (ha : nice a = true) (hb : nice b = true) (da : a.depth ≤ 64) (db : b.depth ≤ 64) : dNe a b = some (.bool (!PyData.eqv a b)) := if_pos (by rw [shaped_nice ha da, shaped_nice hb db]; simp)
mutual
theorem eqv_refl : ∀ d : D, nice d = true → PyData.eqv d d = true
  | .none, _ => rfl
  | .bool b, _ => by rw [PyData.eqv]; simp
  | .int i, _ => by rw [eqv_ii]; simp
  | .str x, _ => by rw [eqv_ss]; simp
  | .list xs, h => by rw [PyData.eqv]; exact eqvAll_refl xs h
  | .tuple xs, h => by rw [PyData.eqv]; exact eqvAll_refl xs h
  | .dict _, h => by cases h
theorem eqvAll_refl : ∀ xs : List D, niceAll xs = true → PyData.eqvAll xs xs = true
  | [], _ => rfl
  | x :: xs, h => by
    obtain ⟨h1, h2⟩ := Bool.and_eq_true_iff.mp h
    rw [PyData.eqvAll, eqv_refl x h1, eqvAll_refl xs h2]
    rfl
end
/-! ### rows of ints -/
abbrev tI (xs : List Int) : D := .tuple (xs.map .int)
theorem nice_ints {xs : List Int} (h : ∀ x ∈ xs, x.natAbs < 10 ^ 18) : niceAll (xs.map .int) = true := niceAll_iff.mpr fun d hd => by
  obtain ⟨x, hx, rfl⟩ := List.mem_map.mp hd
  exact decide_eq_true (h x hx)
theorem bulk_ints (xs : List Int) : PyData.bulkAll (xs.map .int) = xs.length := by
  induction xs with
  | nil => rfl
  | cons x r ih =>
    show PyData.bulk (.int x) + 1 + PyData.bulkAll (r.map .int) = _
    rw [ih, PyData.bulk, List.length_cons]
    omega
theorem depth_ints (xs : List Int) : PyData.depthAll (xs.map .int) = 0 := by
  induction xs with
  | nil => rfl
  | cons x r ih =>
    show max (PyData.depth (.int x)) (PyData.depthAll (r.map .int)) = _
    rw [ih]
    rfl
theorem depth_tI (xs : List Int) : (tI xs).depth = 1 := by
  show PyData.depthAll (xs.map .int) + 1 = 1
  rw [depth_ints]
theorem repr_tI {xs : List Int} (h : ∀ x ∈ xs, x.natAbs < 10 ^ 18) (hl : xs.length ≤ 40000) : dRepr [tI xs] = some (.str (tI xs).shown) := repr_nice (nice_ints h) (by rw [depth_tI]; decide) (by
  show PyData.bulkAll (xs.map .int) ≤ 40000
  rw [bulk_ints]
  exact hl)
theorem eqv_ints : ∀ xs ys : List Int, PyData.eqvAll (xs.map .int) (ys.map .int) = decide (xs = ys)
  | [], [] => rfl
  | [], _ :: _ => rfl
  | _ :: _, [] => rfl
  | x :: xs, y :: ys => by
    show PyData.eqvAll (.int x :: xs.map .int) (.int y :: ys.map .int) = _
    rw [PyData.eqvAll, eqv_ii, eqv_ints xs ys]
    by_cases h : x = y
    · by_cases h2 : xs = ys
      · simp [h, h2]
      · simp [h, h2]
    · simp [h]
theorem eqv_tI (xs ys : List Int) : PyData.eqv (tI xs) (tI ys) = decide (xs = ys) := by
  rw [PyData.eqv]
  exact eqv_ints xs ys
@[simp] theorem dLen_t (xs : List D) : dLen [.tuple xs] = some (.int (xs.length : Nat)) := rfl
@[simp] theorem dLen_l (xs : List D) : dLen [.list xs] = some (.int (xs.length : Nat)) := rfl
@[simp] theorem dMax_ii (a b : Int) : dMax [.int a, .int b] = some (.int (max a b)) := rfl
@[simp] theorem dMin_ii (a b : Int) : dMin [.int a, .int b] = some (.int (min a b)) := rfl
theorem alike_ints (xs : List Int) : allAlike (xs.map .int) = true := by
  unfold allAlike
  rw [List.all_eq_true]
  intro d hd
  obtain ⟨x, _, rfl⟩ := List.mem_map.mp hd
  have : (((xs.map PyData.int).all fun y => PySem.W.alike (.int x) y) = true) := List.all_eq_true.mpr fun e he => by
    obtain ⟨y, _, rfl⟩ := List.mem_map.mp he
    rfl
  rw [this]
  rfl
/-- the greatest -/
def maxI (x : Int) (xs : List Int) : Int := xs.foldl max x
theorem maxD_ints (x : Int) (xs : List Int) : PySem.W.maxD (.int x) (xs.map .int) = .int (maxI x xs) := by
  induction xs generalizing x with
  | nil => rfl
  | cons y r ih =>
    show PySem.W.maxD (if PySem.W.dataLt (.int x) (.int y) then .int y else .int x) (r.map .int) = _
    rw [lt_int]
    by_cases h : x < y
    · rw [decide_eq_true h, if_pos rfl, ih]
      show _ = PyData.int (r.foldl max (max x y))
      rw [show max x y = y by omega]
      rfl
    · rw [decide_eq_false h, if_neg (by decide), ih]
      show _ = PyData.int (r.foldl max (max x y))
      rw [show max x y = x by omega]
      rfl
theorem dMax_l (x : Int) (xs : List Int) : dMax [.list ((x :: xs).map .int)] = some (.int (maxI x xs)) := by
  rw [← maxD_ints]
  exact if_pos (alike_ints (x :: xs))
theorem dMax_t (x : Int) (xs : List Int) : dMax [.tuple ((x :: xs).map .int)] = some (.int (maxI x xs)) := by
  rw [← maxD_ints]
  exact if_pos (alike_ints (x :: xs))
theorem maxI_le {x : Int} {xs : List Int} {b : Int} : maxI x xs ≤ b ↔ x ≤ b ∧ ∀ y ∈ xs, y ≤ b := by
  induction xs generalizing x with
  | nil => simp [maxI]
  | cons y r ih =>
    show maxI (max x y) r ≤ b ↔ _
    rw [ih, Int.max_le, and_assoc]
    simp only [List.mem_cons, forall_eq_or_imp]
theorem le_maxI {x : Int} {xs : List Int} : x ≤ maxI x xs ∧ ∀ y ∈ xs, y ≤ maxI x xs := maxI_le.mp (Int.le_refl _)
theorem dAll_map {α : Type} (f : α → Bool) (xs : List α) : dAll [.list (xs.map fun x => .bool (f x))] = some (.bool (xs.all f)) := by
  show (boolsD (xs.map fun x => .bool (f x))).map _ = _
  have e : (xs.map fun x => PyData.bool (f x)) = (xs.map f).map .bool := by rw [List.map_map]; rfl
  rw [show (xs.map fun x => (PyData.bool (f x))) = (xs.map f).map .bool from e, boolsD_map]
  simp [List.all_map]
theorem dAny_map {α : Type} (f : α → Bool) (xs : List α) : dAny [.list (xs.map fun x => .bool (f x))] = some (.bool (xs.any f)) := by
  show (boolsD (xs.map fun x => .bool (f x))).map _ = _
  have e : (xs.map fun x => PyData.bool (f x)) = (xs.map f).map .bool := by rw [List.map_map]; rfl
  rw [show (xs.map fun x => (PyData.bool (f x))) = (xs.map f).map .bool from e, boolsD_map]
  simp [List.any_map]
/-! ### comprehensions, loops -/
/-- over things told by α: the mirror's answer -/
theorem lcF_map {P α : Type} {pm : D → Option P} {mt : P → Option Bool} {me : P → Option D} (enc : α → D) (t : α → Bool) (h : α → D) : ∀ xs : List α, (∀ a ∈ xs, ∃ p, pm (enc a) = some p ∧ mt p = some (t a) ∧ (t a = true → me p = some (h a))) → lcF pm mt me (xs.map enc) = some ((xs.filter t).map h)
  | [], _ => rfl
  | a :: r, q => by
    obtain ⟨p, h1, h2, h3⟩ := q a List.mem_cons_self
    have ih := lcF_map enc t h r fun b hb => q b (List.mem_cons_of_mem _ hb)
    show ((pm (enc a)).bind fun p => (mt p).bind fun b => if b then (me p).bind fun d => (lcF pm mt me (r.map enc)).map (d :: ·) else lcF pm mt me (r.map enc)) = _
    rw [h1, Option.bind_some, h2, Option.bind_some, ih]
    cases e : t a with
    | true =>
      rw [if_pos rfl, h3 e, List.filter_cons, e]
      rfl
    | false =>
      rw [if_neg (by decide), List.filter_cons, e]
      rfl
theorem lcF_all {P α : Type} {pm : D → Option P} {me : P → Option D} (enc : α → D) (h : α → D) (xs : List α) (q : ∀ a ∈ xs, ∃ p, pm (enc a) = some p ∧ me p = some (h a)) : lcF pm (fun _ => some true) me (xs.map enc) = some (xs.map h) := by
  rw [lcF_map enc (fun _ => true) h xs fun a ha => by
    obtain ⟨p, h1, h2⟩ := q a ha
    exact ⟨p, h1, rfl, fun _ => h2⟩]
  rw [List.filter_eq_self.mpr fun _ _ => rfl]
/-- a loop that goes through all: the state told by σ -/
theorem forF_fold {L R α σ : Type} {f : L → D → Option (Fl L L R)} (enc : α → D) (enL : σ → L) (step : σ → α → σ) (inv : Nat → σ → Prop) (xs : List α) (s : σ) (k : Nat) (h0 : inv k s)
    (h : ∀ i (a : α) (s : σ), xs[i]? = some a → inv (k + i) s → f (enL s) (enc a) = some (.nx (enL (step s a))) ∧ inv (k + i + 1) (step s a)) : forF f (xs.map enc) (enL s) = some (.nx (enL (xs.foldl step s))) ∧ inv (k + xs.length) (xs.foldl step s) := by
  induction xs generalizing s k with
  | nil => exact ⟨rfl, h0⟩
  | cons a r ih =>
    obtain ⟨h1, h2⟩ := h 0 a s rfl h0
    have q := ih (step s a) (k + 1) h2 fun i b s' hi hs => by
      have z := h (i + 1) b s' (by simpa using hi) (by rw [show k + (i + 1) = k + 1 + i by omega]; exact hs)
      rw [show k + (i + 1) = k + 1 + i by omega] at z
      exact z
    refine ⟨?_, ?_⟩
    · show (f (enL s) (enc a)).bind _ = _
      rw [h1]
      exact q.1
    · rw [List.length_cons, show k + (r.length + 1) = k + 1 + r.length by omega]
      exact q.2
@[simp] theorem dPlus_ii (a b : Int) : dPlus (.int a) (.int b) = some (.int (a + b)) := rfl
theorem dPlus_tt {a b : List D} (h : a.length + b.length ≤ 100000) : dPlus (.tuple a) (.tuple b) = some (.tuple (a ++ b)) := if_pos (Nat.le_trans h (by decide))
theorem dPlus_ll {a b : List D} (h : a.length + b.length ≤ 100000) : dPlus (.list a) (.list b) = some (.list (a ++ b)) := if_pos h
theorem appD_s {ds : List D} {d : D} (h : ds.length < 100000) : appD ds d = some (ds ++ [d]) := if_pos h
theorem cut_to {α : Type} (ds : List α) (k : Nat) : cutD ds none (some (k : Int)) = ds.take k := by
  unfold cutD
  rw [HT.sIx_none, HT.sIx_nat, List.drop_zero, Nat.sub_zero, Nat.min_def]
  split
  · rfl
  · rw [List.take_of_length_le (Nat.le_refl _), List.take_of_length_le (by omega)]
theorem cut_from {α : Type} (ds : List α) (k : Nat) : cutD ds (some (k : Int)) none = ds.drop k := by
  unfold cutD
  rw [HT.sIx_none, HT.sIx_nat, Nat.min_def]
  split
  · exact List.take_of_length_le (by rw [List.length_drop]; exact Nat.le_refl _)
  · rw [List.drop_of_length_le (Nat.le_refl _), List.drop_of_length_le (by omega)]
    simp
theorem ixN_nat {n k : Nat} (h : k < n) : ixN n (k : Int) = some k := by
  unfold ixN
  rw [if_pos (Int.natCast_nonneg k), if_pos (by omega)]
  rfl
theorem ixN_last {n : Nat} (h : 0 < n) : ixN n (-1) = some (n - 1) := by
  unfold ixN
  rw [if_neg (by decide), if_pos (by omega)]
  congr 1
  omega
theorem ix_t {ds : List D} {k : Nat} (h : k < ds.length) : dIx (.tuple ds) (.int (k : Nat)) = some ds[k] := by
  show (ixN ds.length (k : Int)).bind _ = _
  rw [ixN_nat h]
  exact List.getElem?_eq_getElem h
theorem ix_l {ds : List D} {k : Nat} (h : k < ds.length) : dIx (.list ds) (.int (k : Nat)) = some ds[k] := by
  show (ixN ds.length (k : Int)).bind _ = _
  rw [ixN_nat h]
  exact List.getElem?_eq_getElem h
theorem ix_last_t {ds : List D} (h : 0 < ds.length) : dIx (.tuple ds) (.int (-1)) = some ds[ds.length - 1] := by
  show (ixN ds.length (-1)).bind _ = _
  rw [ixN_last h]
  exact List.getElem?_eq_getElem (by omega)
theorem ix_last_l {ds : List D} (h : 0 < ds.length) : dIx (.list ds) (.int (-1)) = some ds[ds.length - 1] := by
  show (ixN ds.length (-1)).bind _ = _
  rw [ixN_last h]
  exact List.getElem?_eq_getElem (by omega)
theorem rOk_nat {n : Nat} (h : n ≤ 100000) : rOk (n : Int) = true := cl_iff.mpr ⟨by omega, by omega⟩
theorem rangeL_nat (n : Nat) : rangeL 0 (n : Int) = (List.range n).map fun i => .int (i : Nat) := by
  unfold rangeL
  rw [Int.sub_zero, Int.toNat_natCast]
  congr 1
  funext i
  rw [Int.zero_add]
theorem range_0 {n : Nat} (h : n ≤ 100000) : dR1 (.int (n : Nat)) = some ((List.range n).map fun i => .int (i : Nat)) := by
  show (if rOk (n : Int) = true then some (rangeL 0 (n : Int)) else none) = _
  rw [rOk_nat h, rangeL_nat]
  exact if_pos rfl
theorem enum_rg (n : Nat) (f : Nat → D) : enumD (.tuple ((List.range n).map f)) = some ((List.range n).map fun i => .tuple [.int (i : Nat), f i]) := by
  unfold enumD
  rw [iterD_t, Option.map_some]
  congr 1
  apply List.ext_getElem?
  intro i
  rw [List.getElem?_map, List.getElem?_zipIdx, List.getElem?_map, List.getElem?_map]
  by_cases h : i < n
  · rw [List.getElem?_range h]
    simp
  · rw [List.getElem?_eq_none (by simpa using h)]
    rfl
theorem enum_rgl (n : Nat) (f : Nat → D) : enumD (.list ((List.range n).map f)) = some ((List.range n).map fun i => .tuple [.int (i : Nat), f i]) := enum_rg n f
theorem zip_rg (n m : Nat) (f g : Nat → D) : zip2L ((List.range n).map f) ((List.range m).map g) = (List.range (min n m)).map fun i => .tuple [f i, g i] := by
  unfold zip2L
  apply List.ext_getElem?
  intro i
  rw [List.getElem?_map, List.getElem?_map]
  by_cases h : i < min n m
  · have h1 : i < n := by omega
    have h2 : i < m := by omega
    have e : (((List.range n).map f).zip ((List.range m).map g))[i]? = some (f i, g i) := by
      rw [List.getElem?_zip_eq_some, List.getElem?_map, List.getElem?_map, List.getElem?_range h1, List.getElem?_range h2]
      exact ⟨rfl, rfl⟩
    rw [e, List.getElem?_range h]
    rfl
  · rw [List.getElem?_eq_none (by simp; omega), List.getElem?_eq_none (by simp; omega)]
    rfl
/-- a loop that may end early -/
theorem forF_find {L R α : Type} {f : L → D → Option (Fl L L R)} {l : L} (enc : α → D) (good : α → Prop) (ok : R → Prop) : ∀ xs : List α, (∀ a ∈ xs, (good a ∧ f l (enc a) = some (.nx l)) ∨ (¬ good a ∧ ∃ z, ok z ∧ f l (enc a) = some (.rt z))) →
    ((∀ a ∈ xs, good a) ∧ forF f (xs.map enc) l = some (.nx l)) ∨ ((∃ a ∈ xs, ¬ good a) ∧ ∃ z, ok z ∧ forF f (xs.map enc) l = some (.rt z))
  | [], _ => .inl ⟨fun a h => (by cases h), rfl⟩
  | a :: r, h => by
    rcases h a List.mem_cons_self with ⟨h1, h2⟩ | ⟨h1, z, h2, h3⟩
    · have e : forF f ((a :: r).map enc) l = forF f (r.map enc) l := by
        show (f l (enc a)).bind _ = _
        rw [h2]
        rfl
      rcases forF_find enc good ok r fun b hb => h b (List.mem_cons_of_mem _ hb) with ⟨q1, q2⟩ | ⟨⟨b, hb, q1⟩, q2⟩
      · refine .inl ⟨fun b hb => ?_, by rw [e]; exact q2⟩
        rcases List.mem_cons.mp hb with rfl | hb
        · exact h1
        · exact q1 b hb
      · exact .inr ⟨⟨b, List.mem_cons_of_mem _ hb, q1⟩, by rw [e]; exact q2⟩
    · refine .inr ⟨⟨a, List.mem_cons_self, h1⟩, z, h2, ?_⟩
      show (f l (enc a)).bind _ = _
      rw [h3]
      rfl
/-- the greatest of those that count -/
theorem fold_max {α : Type} {c : α → Bool} {v : α → Int} (xs : List α) (h b : Int) : xs.foldl (fun h a => if c a then max h (v a) else h) h ≤ b ↔ h ≤ b ∧ ∀ a ∈ xs, c a = true → v a ≤ b := by
  induction xs generalizing h with
  | nil => simp
  | cons a r ih =>
    rw [List.foldl_cons, ih]
    simp only [List.mem_cons, forall_eq_or_imp]
    cases e : c a with
    | true =>
      rw [if_pos rfl, Int.max_le, and_assoc]
      simp
    | false => simp
theorem eq_of_le {x y : Int} (h : ∀ c, x ≤ c ↔ y ≤ c) : x = y := Int.le_antisymm ((h y).mpr (Int.le_refl _)) ((h x).mp (Int.le_refl _))
theorem sl_from1 (ds : List D) : slO dSl (some (.tuple ds)) (some (some 1)) (some none) = some (.tuple (ds.drop 1)) := by
  show some (PyData.tuple (cutD ds (some ((1 : Nat) : Int)) none)) = _
  rw [cut_from]
theorem sl_to (ds : List D) (k : Nat) : slO dSl (some (.tuple ds)) (some none) (some (some (k : Int))) = some (.tuple (ds.take k)) := by
  show some (PyData.tuple (cutD ds none (some (k : Int)))) = _
  rw [cut_to]
theorem sl_to_l (ds : List D) (k : Nat) : slO dSl (some (.list ds)) (some none) (some (some (k : Int))) = some (.list (ds.take k)) := by
  show some (PyData.list (cutD ds none (some (k : Int)))) = _
  rw [cut_to]
/-- a loop by an invariant -/
theorem forF_rel {L R : Type} {f : L → D → Option (Fl L L R)} (inv : Nat → L → Prop) : ∀ (xs : List D) (l : L) (k : Nat), inv k l → (∀ (i : Nat) (x : D) (l : L), xs[i]? = some x → inv (k + i) l → ∃ l', f l x = some (.nx l') ∧ inv (k + i + 1) l') → ∃ l', forF f xs l = some (.nx l') ∧ inv (k + xs.length) l'
  | [], l, k, h0, _ => ⟨l, rfl, h0⟩
  | x :: r, l, k, h0, h => by
    obtain ⟨l', h1, h2⟩ := h 0 x l rfl h0
    obtain ⟨l2, h3, h4⟩ := forF_rel inv r l' (k + 1) h2 fun i y l hi hl => by
      have z := h (i + 1) y l (by simpa using hi) (by rw [show k + (i + 1) = k + 1 + i by omega]; exact hl)
      rw [show k + (i + 1) = k + 1 + i by omega] at z
      exact z
    refine ⟨l2, ?_, by rw [List.length_cons, show k + (r.length + 1) = k + 1 + r.length by omega]; exact h4⟩
    show (f l x).bind _ = _
    rw [h1]
    exact h3
/-- a comprehension with effects, by an invariant -/
theorem lcX_rel {T P : Type} {pm : D → Option P} {mt : P → T → Option (Bool × T)} {me : P → T → Option (D × T)} (inv : Nat → T → Prop) (ok : D → Prop) : ∀ (xs : List D) (t : T) (k : Nat), inv k t → (∀ (i : Nat) (x : D) (t : T), xs[i]? = some x → inv (k + i) t → ∃ p, pm x = some p ∧ mt p t = some (true, t) ∧ ∃ d t', me p t = some (d, t') ∧ ok d ∧ inv (k + i + 1) t') →
    ∃ ds t', lcX pm mt me xs t = some (ds, t') ∧ ds.length = xs.length ∧ (∀ d ∈ ds, ok d) ∧ inv (k + xs.length) t'
  | [], t, k, h0, _ => ⟨[], t, rfl, rfl, fun d h => (by cases h), h0⟩
  | x :: r, t, k, h0, h => by
    obtain ⟨p, h1, h2, d, t', h3, h4, h5⟩ := h 0 x t rfl h0
    obtain ⟨ds, t2, h6, h7, h8, h9⟩ := lcX_rel (pm := pm) (mt := mt) (me := me) inv ok r t' (k + 1) h5 fun i y l hi hl => by
      have z := h (i + 1) y l (by simpa using hi) (by rw [show k + (i + 1) = k + 1 + i by omega]; exact hl)
      rw [show k + (i + 1) = k + 1 + i by omega] at z
      exact z
    refine ⟨d :: ds, t2, ?_, by rw [List.length_cons, List.length_cons, h7], fun z hz => ?_, by rw [List.length_cons, show k + (r.length + 1) = k + 1 + r.length by omega]; exact h9⟩
    · show ((pm x).bind fun p => (mt p t).bind fun q => if q.1 then (me p q.2).bind fun w => (lcX pm mt me r w.2).map fun z => (w.1 :: z.1, z.2) else lcX pm mt me r q.2) = _
      rw [h1, Option.bind_some, h2, Option.bind_some, if_pos rfl]
      show ((me p t).bind _) = _
      rw [h3, Option.bind_some]
      show (lcX pm mt me r t').map _ = _
      rw [h6]
      rfl
    · rcases List.mem_cons.mp hz with rfl | hz
      · exact h4
      · exact h8 z hz
end DL

set_option Elab.async false
set_option linter.all false
set_option autoImplicit false
namespace K61
/-! ### letters held back: plain numbers -/
/-- the greatest of f 0 .. f n -/
def maxUp (f : Nat → Int) : Nat → Int
  | 0 => f 0
  | n + 1 => max (maxUp f n) (f (n + 1))
theorem maxUp_le {f : Nat → Int} {c : Int} : ∀ {n : Nat}, maxUp f n ≤ c ↔ ∀ m, m ≤ n → f m ≤ c
  | 0 => ⟨fun h m hm => by have : m = 0 := by omega
                           rw [this]; exact h, fun h => h 0 (Nat.le_refl _)⟩
  | n + 1 => by
    show max (maxUp f n) (f (n + 1)) ≤ c ↔ _
    rw [Int.max_le, maxUp_le]
    refine ⟨fun ⟨h1, h2⟩ m hm => ?_, fun h => ⟨fun m hm => h m (by omega), h _ (Nat.le_refl _)⟩⟩
    by_cases e : m = n + 1
    · rw [e]; exact h2
    · exact h1 m (by omega)
theorem le_maxUp {f : Nat → Int} {n m : Nat} (h : m ≤ n) : f m ≤ maxUp f n := maxUp_le.mp (Int.le_refl _) m h
theorem maxUp_att (f : Nat → Int) : ∀ n, ∃ m, m ≤ n ∧ maxUp f n = f m
  | 0 => ⟨0, Nat.le_refl _, rfl⟩
  | n + 1 => by
    obtain ⟨m, h1, h2⟩ := maxUp_att f n
    show ∃ k, _ ∧ max (maxUp f n) (f (n + 1)) = _
    by_cases h : maxUp f n ≤ f (n + 1)
    · exact ⟨n + 1, Nat.le_refl _, by omega⟩
    · exact ⟨m, by omega, by omega⟩
/-- so much later at least is the letter k places behind -/
def phi (b e : Int) (k : Nat) : Int := if (k : Int) + 1 ≤ b then 0 else ((k : Int) + 1 - b) * e
section
variable {b e : Int} (hb : 1 ≤ b) (he : 0 ≤ e)
theorem phi_small {b e : Int} {k : Nat} (h : (k : Int) + 1 ≤ b) : phi b e k = 0 := if_pos h
theorem phi_big {b e : Int} {k : Nat} (h : ¬ (k : Int) + 1 ≤ b) : phi b e k = ((k : Int) + 1 - b) * e := if_neg h
theorem phi_nonneg (he : 0 ≤ e) (k : Nat) : 0 ≤ phi b e k := by
  by_cases h : (k : Int) + 1 ≤ b
  · rw [phi_small h]; exact Int.le_refl _
  · rw [phi_big h]; exact Int.mul_nonneg (by omega) he
theorem phi_zero (hb : 1 ≤ b) : phi b e 0 = 0 := phi_small (by omega)
theorem phi_ge (he : 0 ≤ e) (k : Nat) : ((k : Int) + 1 - b) * e ≤ phi b e k := by
  by_cases h : (k : Int) + 1 ≤ b
  · rw [phi_small h]
    exact Int.mul_nonpos_of_nonpos_of_nonneg (by omega) he
  · rw [phi_big h]; exact Int.le_refl _
theorem phi_le {c : Int} {k : Nat} (h0 : 0 ≤ c) (h : ¬ (k : Int) + 1 ≤ b → ((k : Int) + 1 - b) * e ≤ c) : phi b e k ≤ c := by
  by_cases q : (k : Int) + 1 ≤ b
  · rw [phi_small q]; exact h0
  · rw [phi_big q]; exact h q
theorem phi_mono (he : 0 ≤ e) {j k : Nat} (h : j ≤ k) : phi b e j ≤ phi b e k := phi_le (phi_nonneg he k) fun _ =>
  Int.le_trans (Int.mul_le_mul_of_nonneg_right (by omega) he) (phi_ge he k)
theorem phi_sup (hb : 1 ≤ b) (he : 0 ≤ e) (j k : Nat) : phi b e j + phi b e k ≤ phi b e (j + k) := by
  by_cases h1 : (j : Int) + 1 ≤ b
  · rw [phi_small h1]
    have := phi_mono (b := b) he (Nat.le_add_left k j)
    omega
  · by_cases h2 : (k : Int) + 1 ≤ b
    · rw [phi_small h2]
      have := phi_mono (b := b) he (Nat.le_add_right j k)
      omega
    · rw [phi_big h1, phi_big h2, ← Int.add_mul]
      refine Int.le_trans (Int.mul_le_mul_of_nonneg_right ?_ he) (phi_ge he (j + k))
      have : ((j + k : Nat) : Int) = (j : Int) + (k : Int) := by omega
      omega
theorem phi_up (hb : 1 ≤ b) (he : 0 ≤ e) (k : Nat) : phi b e k ≤ (k : Int) * e := phi_le (Int.mul_nonneg (by omega) he) fun _ => Int.mul_le_mul_of_nonneg_right (by omega) he
theorem phi_loose {b' e' : Int} (he : 0 ≤ e) (hb' : b ≤ b') (he' : e' ≤ e) (h0 : 0 ≤ e') (k : Nat) : phi b' e' k ≤ phi b e k := phi_le (phi_nonneg he k) fun h => by
  refine Int.le_trans ?_ (phi_ge he k)
  exact Int.le_trans (Int.mul_le_mul_of_nonneg_left he' (by omega)) (Int.mul_le_mul_of_nonneg_right (by omega) he)
end
/-- when letter n goes on -/
def H (a : Nat → Int) (b e : Int) (n : Nat) : Int := maxUp (fun m => a m + phi b e (n - m)) n
section
variable {a : Nat → Int} {b e : Int}
theorem H_le {n : Nat} {c : Int} : H a b e n ≤ c ↔ ∀ m, m ≤ n → a m + phi b e (n - m) ≤ c := maxUp_le
theorem H_ge {m n : Nat} (h : m ≤ n) : a m + phi b e (n - m) ≤ H a b e n := H_le.mp (Int.le_refl _) m h
theorem H_att (n : Nat) : ∃ m, m ≤ n ∧ H a b e n = a m + phi b e (n - m) := maxUp_att _ n
theorem H_self (he : 0 ≤ e) (n : Nat) : a n ≤ H a b e n := by
  have h := H_ge (a := a) (b := b) (e := e) (Nat.le_refl n)
  have := phi_nonneg (b := b) he (n - n)
  omega
theorem H_P (hb : 1 ≤ b) (he : 0 ≤ e) {m n : Nat} (h : m ≤ n) : H a b e m + phi b e (n - m) ≤ H a b e n := by
  obtain ⟨j, h1, h2⟩ := H_att (a := a) (b := b) (e := e) m
  have h3 := H_ge (a := a) (b := b) (e := e) (Nat.le_trans h1 h)
  have h4 := phi_sup hb he (m - j) (n - m)
  rw [show m - j + (n - m) = n - j by omega] at h4
  omega
theorem H_mono (hb : 1 ≤ b) (he : 0 ≤ e) {m n : Nat} (h : m ≤ n) : H a b e m ≤ H a b e n := by
  have h1 := H_P (a := a) hb he h
  have := phi_nonneg (b := b) he (n - m)
  omega
theorem H_least {g : Nat → Int} {n : Nat} (h1 : ∀ i, i ≤ n → a i ≤ g i) (h2 : ∀ m, m ≤ n → g m + phi b e (n - m) ≤ g n) : H a b e n ≤ g n := H_le.mpr fun m hm => by
  have := h1 m hm
  have := h2 m hm
  omega
/-- it fits the bucket -/
def Fit (n : Nat) (a : Nat → Int) (b e : Int) : Prop := ∀ m k, m ≤ k → k < n → a m + phi b e (k - m) ≤ a k
theorem H_fix (he : 0 ≤ e) {N n : Nat} (h : Fit N a b e) (hn : n < N) : H a b e n = a n := by
  have h1 := H_self (a := a) (b := b) he n
  have h2 : H a b e n ≤ a n := H_le.mpr fun m hm => h m n hm hn
  omega
theorem fit_of_H (hb : 1 ≤ b) (he : 0 ≤ e) {N : Nat} (h : ∀ n, n < N → H a b e n = a n) : Fit N a b e := fun m k hm hk => by
  have := H_P (a := a) hb he hm
  rw [h k hk, h m (by omega)] at this
  exact this
theorem fit_H (hb : 1 ≤ b) (he : 0 ≤ e) (N : Nat) : Fit N (H a b e) b e := fun m k hm _ => H_P hb he hm
theorem H_congr {a' : Nat → Int} {n : Nat} (h : ∀ i, i ≤ n → a i = a' i) : H a b e n = H a' b e n := by
  have h1 : H a b e n ≤ H a' b e n := H_le.mpr fun m hm => by rw [h m hm]; exact H_ge hm
  have h2 : H a' b e n ≤ H a b e n := H_le.mpr fun m hm => by rw [← h m hm]; exact H_ge hm
  omega
theorem H_pt {a' : Nat → Int} {n : Nat} (h : ∀ i, i ≤ n → a i ≤ a' i) : H a b e n ≤ H a' b e n := H_le.mpr fun m hm => by
  have h1 := H_ge (a := a') (b := b) (e := e) hm
  have := h m hm
  omega
theorem H_shift (c : Int) (n : Nat) : H (fun i => a i + c) b e n = H a b e n + c := by
  have h1 : H (fun i => a i + c) b e n ≤ H a b e n + c := H_le.mpr fun m hm => by
    have := H_ge (a := a) (b := b) (e := e) hm
    show a m + c + phi b e (n - m) ≤ _
    omega
  have h2 : H a b e n ≤ H (fun i => a i + c) b e n - c := H_le.mpr fun m hm => by
    have := H_ge (a := fun i => a i + c) (b := b) (e := e) hm
    have q : a m + c + phi b e (n - m) ≤ H (fun i => a i + c) b e n := this
    omega
  omega
theorem H_up (hb : 1 ≤ b) (he : 0 ≤ e) {A : Int} {n : Nat} (h : ∀ i, i ≤ n → a i ≤ A) : H a b e n ≤ A + (n : Int) * e := H_le.mpr fun m hm => by
  have h1 := phi_up hb he (n - m)
  have h2 := h m hm
  have h3 : ((n - m : Nat) : Int) * e ≤ (n : Int) * e := Int.mul_le_mul_of_nonneg_right (by omega) he
  omega
/-- another bucket behind keeps what fits the first -/
theorem fit_H2 {b' e' : Int} {N : Nat} (hf : Fit N a b e) : Fit N (H a b' e') b e := fun m k hm hk => by
  obtain ⟨j, h1, h2⟩ := H_att (a := a) (b := b') (e := e') m
  have h3 := hf j (j + (k - m)) (by omega) (by omega)
  have h4 := H_ge (a := a) (b := b') (e := e') (m := j + (k - m)) (n := k) (by omega)
  rw [show j + (k - m) - j = k - m by omega] at h3
  rw [show k - (j + (k - m)) = m - j by omega] at h4
  omega
theorem fit_loose {b' e' : Int} {N : Nat} (he : 0 ≤ e) (hb' : b ≤ b') (he' : e' ≤ e) (h0 : 0 ≤ e') (hf : Fit N a b e) : Fit N a b' e' := fun m k hm hk => by
  have h1 := hf m k hm hk
  have h2 := phi_loose (b := b) he hb' he' h0 (k - m)
  omega
/-- a looser bucket ahead adds nothing -/
theorem H_ahead {b' e' : Int} (hb : 1 ≤ b) (he : 0 ≤ e) (hb' : b ≤ b') (he' : e' ≤ e) (h0 : 0 ≤ e') (n : Nat) : H (H a b' e') b e n = H a b e n := by
  have h1 : H a b e n ≤ H (H a b' e') b e n := H_pt fun i _ => H_self h0 i
  have h2 : H (H a b' e') b e n ≤ H (H a b e) b e n := H_pt fun i _ => H_le.mpr fun m hm => by
    have q := H_ge (a := a) (b := b) (e := e) hm
    have := phi_loose (b := b) he hb' he' h0 (i - m)
    omega
  have h3 : H (H a b e) b e n = H a b e n := H_fix he (fit_H hb he (n + 1)) (Nat.lt_succ_self n)
  omega
/-- some of the letters: s tells their places -/
theorem sub_far {s : Nat → Nat} {N : Nat} (hs : ∀ i j, i < j → j < N → s i < s j) : ∀ {m k : Nat}, m ≤ k → k < N → k - m ≤ s k - s m ∧ s m ≤ s k := fun {m k} hm hk => by
  obtain ⟨d, rfl⟩ : ∃ d, k = m + d := ⟨k - m, by omega⟩
  induction d with
  | zero => simp
  | succ d ih =>
    obtain ⟨h1, h2⟩ := ih (by omega) (by omega)
    have h3 := hs (m + d) (m + (d + 1)) (by omega) hk
    omega
theorem H_sub (hb : 1 ≤ b) (he : 0 ≤ e) {s : Nat → Nat} {N n : Nat} (hs : ∀ i j, i < j → j < N → s i < s j) (hn : n < N) {a' : Nat → Int} (ha : ∀ i, i < N → a' i ≤ a (s i)) : H a' b e n ≤ H a b e (s n) := H_le.mpr fun m hm => by
  obtain ⟨h1, h2⟩ := sub_far hs hm hn
  have h3 := H_ge (a := a) (b := b) (e := e) h2
  have h4 := phi_mono (b := b) he h1
  have h5 := ha m (by omega)
  omega
theorem fit_sub (he : 0 ≤ e) {s : Nat → Nat} {N M : Nat} (hs : ∀ i j, i < j → j < N → s i < s j) (hM : ∀ i, i < N → s i < M) (hf : Fit M a b e) : Fit N (fun i => a (s i)) b e := fun m k hm hk => by
  obtain ⟨h1, h2⟩ := sub_far hs hm hk
  have h3 := hf (s m) (s k) h2 (hM k hk)
  have h4 := phi_mono (b := b) he h1
  show a (s m) + _ ≤ a (s k)
  omega
/-! two rows, the second far behind -/
def cat (n : Nat) (a c : Nat → Int) : Nat → Int := fun i => if i < n then a i else c (i - n)
theorem cat_l {n i : Nat} {a c : Nat → Int} (h : i < n) : cat n a c i = a i := if_pos h
theorem cat_r {n : Nat} {a c : Nat → Int} (i : Nat) : cat n a c (n + i) = c i := by
  show (if n + i < n then _ else c (n + i - n)) = _
  rw [if_neg (by omega), Nat.add_sub_cancel_left]
theorem H_cat_l {n i : Nat} {c : Nat → Int} (h : i < n) : H (cat n a c) b e i = H a b e i := H_congr fun j hj => cat_l (by omega)
theorem H_cat_r (hb : 1 ≤ b) (he : 0 ≤ e) {n : Nat} {c : Nat → Int} (hn : 1 ≤ n) (hc : H a b e (n - 1) + b * e ≤ c 0) (i : Nat) : H (cat n a c) b e (n + i) = H c b e i := by
  have h1 : H c b e i ≤ H (cat n a c) b e (n + i) := H_le.mpr fun m hm => by
    have := H_ge (a := cat n a c) (b := b) (e := e) (m := n + m) (n := n + i) (by omega)
    rw [cat_r, show n + i - (n + m) = i - m by omega] at this
    exact this
  have h2 : H (cat n a c) b e (n + i) ≤ H c b e i := H_le.mpr fun m hm => by
    by_cases q : m < n
    · rw [cat_l q]
      have h3 := H_ge (a := a) (b := b) (e := e) (m := m) (n := n - 1) (by omega)
      have h4 := phi_ge (b := b) he (n - 1 - m)
      have h5 := H_ge (a := c) (b := b) (e := e) (m := 0) (n := i) (by omega)
      have h6 := phi_ge (b := b) he i
      rw [Nat.sub_zero] at h5
      have e1 : ((n - 1 - m : Nat) : Int) = (n : Int) - 1 - m := by omega
      have e2 : ((n + i - m : Nat) : Int) = (n : Int) + i - m := by omega
      have h0 : 0 ≤ c 0 - a m := by
        have := phi_nonneg (b := b) he (n - 1 - m)
        have : 0 ≤ b * e := Int.mul_nonneg (by omega) he
        omega
      have hs := phi_nonneg (b := b) he i
      have key : phi b e (n + i - m) ≤ c 0 - a m + phi b e i := phi_le (by omega) fun _ => by
        rw [e2]
        rw [e1] at h4
        have x : ((n : Int) + i - m + 1 - b) * e = ((n : Int) - 1 - m + 1 - b) * e + (((i : Int) + 1 - b) * e + b * e) := by
          rw [← Int.add_mul, ← Int.add_mul]
          congr 1
          omega
        omega
      omega
    · obtain ⟨j, rfl⟩ : ∃ j, m = n + j := ⟨m - n, by omega⟩
      rw [cat_r, show n + i - (n + j) = i - j by omega]
      exact H_ge (by omega)
  omega
end
end K61

set_option Elab.async false
set_option linter.all false
set_option maxRecDepth 100000
set_option maxHeartbeats 2000000
set_option autoImplicit false
namespace DL
open PySem PySem.Spec PyProof.Rows L2
/-! ### what is drawn from a script's cell -/
/-- of at most p bits -/
def Bd (p : Nat) (x : Int) : Prop := x.natAbs < 2 ^ p
theorem Bd.up {p q : Nat} {x : Int} (h : Bd p x) (hp : p ≤ q) : Bd q x := Nat.lt_of_lt_of_le h (Nat.pow_le_pow_right (by decide) hp)
theorem Bd.mul {p q : Nat} {x y : Int} (h : Bd p x) (g : Bd q y) : Bd (p + q) (x * y) := by
  unfold Bd at *
  rw [Int.natAbs_mul, Nat.pow_add]
  exact Nat.mul_lt_mul'' h g
theorem Bd.add {p : Nat} {x y : Int} (h : Bd p x) (g : Bd p y) : Bd (p + 1) (x + y) := by
  unfold Bd at *
  rw [Nat.pow_succ]
  have := Int.natAbs_add_le x y
  omega
theorem Bd.fit {p : Nat} {x : Int} (h : Bd p x) (hp : p ≤ 1000) : fitsM x = true := fitsM_of (h.up hp)
theorem Bd.of {p : Nat} {x : Int} (h1 : -(2 ^ p : Nat) < x) (h2 : x < (2 ^ p : Nat)) : Bd p x := by
  unfold Bd
  omega
theorem bmul {p q : Nat} {x y : Int} (h : Bd p x) (g : Bd q y) (hp : p ≤ 1000 := by decide) (hq : q ≤ 1000 := by decide) : dMul (.int x) (.int y) = some (.int (x * y)) := dMul_ii (h.up hp) (g.up hq)
theorem bdiv {q : Nat} {x y : Int} (h : 0 < y) (g : Bd q y) (hq : q ≤ 1000 := by decide) : dFdiv (.int x) (.int y) = some (.int (x / y)) := dFdiv_ii h (g.up hq)
theorem bmod {x y : Int} (h : 0 < y) : dMod (.int x) (.int y) = some (.int (x % y)) := dMod_ii h
structure Pot (k : Nat) (ps : List D) : Prop where
  ex : ∃ a b c : Int, ps = [.int a, .int b, .int c] ∧ 0 ≤ a ∧ 0 ≤ b ∧ b < 2 ^ 62 ∧ 0 ≤ c ∧ c ≤ k
theorem Pot.up {j k : Nat} {ps : List D} (h : Pot j ps) (hk : j ≤ k) : Pot k ps := by
  obtain ⟨a, b, c, e, h1, h2, h3, h4, h5⟩ := h.ex
  exact ⟨a, b, c, e, h1, h2, h3, h4, by omega⟩
theorem five (i : Int) (h0 : 0 ≤ i) (h5 : i < 5) : ∃ p : Int, 0 < p ∧ p < 2 ^ 31 ∧ dIx (.list [.int 2147483647, .int 2147483629, .int 2147483587, .int 2147483579, .int 2147483563]) (.int i) = some (.int p) := by
  have : i = 0 ∨ i = 1 ∨ i = 2 ∨ i = 3 ∨ i = 4 := by omega
  rcases this with rfl | rfl | rfl | rfl | rfl
  · exact ⟨2147483647, by decide, by decide, rfl⟩
  · exact ⟨2147483629, by decide, by decide, rfl⟩
  · exact ⟨2147483587, by decide, by decide, rfl⟩
  · exact ⟨2147483579, by decide, by decide, rfl⟩
  · exact ⟨2147483563, by decide, by decide, rfl⟩
theorem take_ok {k : Nat} {ps : List D} {u : Int} (hp : Pot k ps) (hk : k < 2 ^ 60) (h1 : 1 ≤ u) (h2 : u < 2 ^ 60) : ∃ d ps', g__law_take ps [.int u] = some (.int d, ps') ∧ 0 ≤ d ∧ d < u ∧ Pot (k + 1) ps' := by
  obtain ⟨a, b, c, rfl, a0, b0, b1, c0, c1⟩ := hp.ex
  have hu : Bd 60 u := Bd.of (by omega) (by omega)
  have i0 : ∀ x y z : Int, dIx (.list [.int x, .int y, .int z]) (.int 0) = some (.int x) := fun _ _ _ => rfl
  have i1 : ∀ x y z : Int, dIx (.list [.int x, .int y, .int z]) (.int 1) = some (.int y) := fun _ _ _ => rfl
  have i2 : ∀ x y z : Int, dIx (.list [.int x, .int y, .int z]) (.int 2) = some (.int z) := fun _ _ _ => rfl
  have s0 : ∀ x y z w : Int, setD [.int x, .int y, .int z] (.int 0) (.int w) = some [.int w, .int y, .int z] := fun _ _ _ _ => rfl
  have s2 : ∀ x y z w : Int, setD [.int x, .int y, .int z] (.int 2) (.int w) = some [.int x, .int y, .int w] := fun _ _ _ _ => rfl
  have di : ∀ x : Int, dInt [.int x] = some (.int x) := fun _ => rfl
  by_cases ha : 0 < a
  · refine ⟨a % u, [.int (a / u), .int b, .int c], ?_, Int.emod_nonneg _ (by omega), Int.emod_lt_of_pos _ (by omega), ⟨a / u, b, c, rfl, Int.ediv_nonneg a0 (by omega), b0, b1, c0, by omega⟩⟩
    simp only [g__law_take, b__law_take, B__law_take, bin_s, i0, dGt_ii, Option.bind_some, isB_s, decide_eq_true ha, consO_s, di, bmod (show 0 < u by omega), bdiv (show 0 < u by omega) hu, s0]
    rfl
  · have hb : Bd 62 b := Bd.of (by omega) (by omega)
    have hc : Bd 61 (c + 1) := Bd.of (by omega) (by omega)
    have h95 : Bd 60 (95257 : Int) := Bd.of (by decide) (by decide)
    have m1 : Bd 121 (95257 * (c + 1)) := h95.mul hc
    have m2 : Bd 182 (95257 * (c + 1) * (c + 1)) := m1.mul hc
    have m3 : Bd 184 (b + 95257 * (c + 1) * (c + 1) + 3163) := Bd.add ((hb.up (by decide)).add m2) ((Bd.of (p := 60) (by decide) (by decide)).up (by decide))
    obtain ⟨p, p0, p1, pe⟩ := five ((c + 1) % 5) (Int.emod_nonneg _ (by decide)) (Int.emod_lt_of_pos _ (by decide))
    have pw : dPow (.int (b + 95257 * (c + 1) * (c + 1) + 3163)) (.int 3) = some (.int ((b + 95257 * (c + 1) * (c + 1) + 3163) ^ 3)) := dPow_ii (n := 3) (by decide) (m3.up (by decide))
    generalize hX : (b + 95257 * (c + 1) * (c + 1) + 3163) ^ 3 = X at pw
    have q0 : 0 ≤ X % p := Int.emod_nonneg _ (by omega)
    have q1 : X % p < p := Int.emod_lt_of_pos _ p0
    have hY : Bd 31 (X % p) := Bd.of (by omega) (by omega)
    have h41 : Bd 60 (419 : Int) := Bd.of (by decide) (by decide)
    have r1 : Bd 121 (419 * (c + 1)) := h41.mul hc
    have r0 : 0 ≤ X % p % 13441 := Int.emod_nonneg _ (by decide)
    have r2 : X % p % 13441 < 13441 := Int.emod_lt_of_pos _ (by decide)
    have r3 : Bd 122 (X % p % 13441 + 419 * (c + 1)) := Bd.add ((Bd.of (p := 60) (by omega) (by omega)).up (by decide)) r1
    refine ⟨_, [.int a, .int b, .int (c + 1)], ?_, Int.emod_nonneg (X % p * (X % p % 13441 + 419 * (c + 1)) % 2305843009213693907 / 229) (show u ≠ 0 by omega), Int.emod_lt_of_pos _ (show 0 < u by omega), ⟨a, b, c + 1, rfl, a0, b0, b1, by omega, by omega⟩⟩
    have l5 : lenOk (some [PyData.int 2147483647, .int 2147483629, .int 2147483587, .int 2147483579, .int 2147483563]) = some [.int 2147483647, .int 2147483629, .int 2147483587, .int 2147483579, .int 2147483563] := rfl
    have f229 : Bd 60 (229 : Int) := Bd.of (by decide) (by decide)
    simp only [g__law_take, b__law_take, B__law_take, bin_s, i0, i1, i2, s2, dGt_ii, Option.bind_some, isB_s, decide_eq_false ha, iteO_f, consO_s, di, dPlus_ii, bmod (show (0 : Int) < 5 by decide), l5, Option.map_some, pe, bmul h95 hc, bmul m1 hc, pw, bmod p0, bmod (show (0 : Int) < 13441 by decide), bmul h41 hc, bmul hY r3, bmod (show (0 : Int) < 2305843009213693907 by decide), bdiv (show (0 : Int) < 229 by decide) f229, bmod (show 0 < u by omega)]
    rfl
theorem of_ok {k : Nat} {ps : List D} {xs : List D} (hp : Pot k ps) (hk : k < 2 ^ 60) (h1 : 1 ≤ xs.length) (h2 : xs.length ≤ 100000) : ∃ (i : Nat) (h : i < xs.length) (ps' : List D), g__law_of ps [.tuple xs] = some (xs[i], ps') ∧ Pot (k + 1) ps' := by
  obtain ⟨d, ps', e, d0, d1, hp'⟩ := take_ok (u := (xs.length : Nat)) hp hk (by omega) (by omega)
  obtain ⟨i, rfl⟩ := Int.eq_ofNat_of_zero_le d0
  have hi : i < xs.length := by omega
  refine ⟨i, hi, ps', ?_, hp'⟩
  simp only [g__law_of, b__law_of, B__law_of, binX, liftX, consX, consO_s, Option.bind_some, Option.map_some, dLen_t, e, ix_t hi]
  rfl
theorem ofl_ok {k : Nat} {ps : List D} {xs : List D} (hp : Pot k ps) (hk : k < 2 ^ 60) (h1 : 1 ≤ xs.length) (h2 : xs.length ≤ 100000) : ∃ (i : Nat) (h : i < xs.length) (ps' : List D), g__law_of ps [.list xs] = some (xs[i], ps') ∧ Pot (k + 1) ps' := by
  obtain ⟨d, ps', e, d0, d1, hp'⟩ := take_ok (u := (xs.length : Nat)) hp hk (by omega) (by omega)
  obtain ⟨i, rfl⟩ := Int.eq_ofNat_of_zero_le d0
  have hi : i < xs.length := by omega
  refine ⟨i, hi, ps', ?_, hp'⟩
  simp only [g__law_of, b__law_of, B__law_of, binX, liftX, consX, consO_s, Option.bind_some, Option.map_some, dLen_l, e, ix_l hi]
  rfl
theorem pot_ok (ns : List Int) {p : Nat} (hp : p ≤ 10) : ∃ ps, g__law_pot [.list (ns.map .int), .int (p : Nat)] = some ps ∧ Pot 0 ps := by
  have di : ∀ x : Int, dInt [.int x] = some (.int x) := fun _ => rfl
  have hpp : Bd 60 (p : Int) := Bd.of (by omega) (by omega)
  have cell : ∃ c : Int, (iteO ((bin dLt (some (.int (p : Nat))) ((consO (some (.list (ns.map .int))) (some [])).bind dLen)).bind isB) (bin dIx (some (.list (ns.map .int))) (some (.int (p : Nat)))) (bin dPlus (bin dPlus (bin dMod ((consO ((consO (slO dSl (some (.list (ns.map .int))) (some none) ((some (.int 1)).bind fun d => (isI d).map some)) (some [])).bind dSum) (some [])).bind dInt) (some (.int 1000211))) (bin dMul (some (.int 4639)) (some (.int (p : Nat))))) (some (.int 3163)))) = some (.int c) := by
    simp only [bin_s, consO_s, Option.bind_some, dLen_l, List.length_map, dLt_ii, isB_s]
    by_cases h : p < ns.length
    · refine ⟨ns[p], ?_⟩
      rw [decide_eq_true (show (p : Int) < (ns.length : Nat) by omega), iteO_t, ix_l (by rw [List.length_map]; exact h)]
      simp
    · refine ⟨((ns.take 1).sum) % 1000211 + 4639 * p + 3163, ?_⟩
      have sl : slO dSl (some (.list (ns.map .int))) (some none) (some (some 1)) = some (.list ((ns.take 1).map .int)) := by
        have := sl_to_l (ns.map PyData.int) 1
        rw [← List.map_take] at this
        exact this
      have sm : dSum [.list ((ns.take 1).map .int)] = some (.int (ns.take 1).sum) := by
        show (intsD ((ns.take 1).map .int)).map _ = _
        rw [ints_map]
        rfl
      rw [decide_eq_false (show ¬ (p : Int) < (ns.length : Nat) by omega), iteO_f]
      simp only [isI_s, Option.map_some, sl, consO_s, Option.bind_some, sm, di, bin_s, bmod (show (0 : Int) < 1000211 by decide), bmul (Bd.of (p := 60) (show -((2 ^ 60 : Nat) : Int) < 4639 by decide) (by decide)) hpp, dPlus_ii]
  obtain ⟨c, hc⟩ := cell
  have da : dAbs [.int c] = some (.int (if c < 0 then -c else c)) := rfl
  generalize hA : (if c < 0 then -c else c) = A at da
  have p10 : Bd 4 (10 : Int) := Bd.of (by decide) (by decide)
  have t60 : dPow (.int 10) (.int 60) = some (.int (10 ^ 60)) := dPow_ii (n := 60) (by decide) (p10.up (by decide))
  have b60 : Bd 200 ((10 : Int) ^ 60) := by unfold Bd; decide
  have t300 : dPow (.int (10 ^ 60)) (.int 5) = some (.int ((10 ^ 60) ^ 5)) := dPow_ii (n := 5) (by decide) (b60.up (by decide))
  have t18 : dPow (.int 10) (.int 18) = some (.int (10 ^ 18)) := dPow_ii (n := 18) (by decide) (p10.up (by decide))
  have pos : (0 : Int) < (10 ^ 60) ^ 5 := by decide
  have b300 : Bd 999 (((10 : Int) ^ 60) ^ 5) := by unfold Bd; decide
  have a0 : 0 ≤ A % (10 ^ 60) ^ 5 := Int.emod_nonneg _ (by decide)
  have a1 : Bd 999 (A % (10 ^ 60) ^ 5) := by
    have h := Int.emod_lt_of_pos A pos
    unfold Bd at b300 ⊢
    omega
  have di2 : ∀ t : Bool, dInt [.bool t] = some (.int (if t then 1 else 0)) := fun _ => rfl
  have b1 : ∀ t : Bool, Bd 1 (if t then (1 : Int) else 0) := fun t => by cases t <;> (unfold Bd; decide)
  have s0 : 0 ≤ c % 2305843009213693951 := Int.emod_nonneg _ (by decide)
  have s1 : c % 2305843009213693951 < 2305843009213693951 := Int.emod_lt_of_pos _ (by decide)
  have sb : Bd 62 (c % 2305843009213693951) := Bd.of (by omega) (by omega)
  have c1 : Bd 60 (72161 : Int) := Bd.of (by decide) (by decide)
  have c2 : Bd 60 (10853 : Int) := Bd.of (by decide) (by decide)
  refine ⟨[.int (A % (10 ^ 60) ^ 5 * (if decide ((10 : Int) ^ 18 ≤ A) then 1 else 0)), .int ((c % 2305843009213693951 * 72161 + 10853 * p * p + 2843) % 2305843009213693921), .int 0], ?_, ⟨_, _, _, rfl, Int.mul_nonneg a0 (by split <;> decide), Int.emod_nonneg _ (by decide), Int.lt_trans (Int.emod_lt_of_pos _ (by decide)) (by decide), by decide, by decide⟩⟩
  have l3 : ∀ x y z : D, lenOk (some [x, y, z]) = some [x, y, z] := fun _ _ _ => rfl
  unfold g__law_pot
  simp only [b__law_pot]
  unfold B__law_pot
  rw [hc]
  simp only [bin_s, consO_s, Option.bind_some, da, di, di2, dGe_ii, t60, t300, t18, bmod pos, bmul a1 (b1 _), bmod (show (0 : Int) < 2305843009213693951 by decide), bmul sb c1, bmul c2 hpp, bmul (c2.mul hpp) hpp, dPlus_ii, bmod (show (0 : Int) < 2305843009213693921 by decide), l3, Option.map_some]
  rfl
theorem cells_ok (ns : List Int) : ∃ m : Nat, 1 ≤ m ∧ m ≤ 3 ∧ g__law_cells [.list (ns.map .int), .int 3] = some ((List.range m).map fun i => .int (i : Nat)) := by
  refine ⟨max 1 (min 3 ns.length), by omega, by omega, ?_⟩
  have e : max (1 : Int) (min 3 ((ns.map PyData.int).length : Nat)) = ((max 1 (min 3 ns.length) : Nat) : Int) := by
    rw [List.length_map]
    omega
  have lr : dLR1 (.int ((max 1 (min 3 ns.length) : Nat) : Int)) = some ((List.range (max 1 (min 3 ns.length))).map fun i => .int (i : Nat)) := by
    rw [← rangeL_nat]
    exact if_pos (Bool.and_eq_true_iff.mpr ⟨rOk_nat (by omega), cl_iff.mpr (by omega)⟩)
  simp only [g__law_cells, b__law_cells, B__law_cells, consO_s, Option.bind_some, dLen_l, dMin_ii, dMax_ii, e, lr]
  rfl
end DL

set_option Elab.async false
set_option linter.all false
set_option maxRecDepth 100000
set_option maxHeartbeats 2000000
set_option autoImplicit false
namespace DL
open PySem PySem.Spec PyProof.Rows L2 K61
/-! ### the mirrors of k61 on rows of ints -/
abbrev rowD (n : Nat) (a : Nat → Int) : List D := (List.range n).map fun i => .int (a i)
abbrev tR (n : Nat) (a : Nat → Int) : D := .tuple (rowD n a)
abbrev bkD (b e : Int) : D := .tuple [.int b, .int e]
theorem rowD_len (n : Nat) (a : Nat → Int) : (rowD n a).length = n := by simp
theorem chain_le (a b c : Int) : chainO dLe dLe (some (.int a)) (some (.int b)) (some (.int c)) = some (.bool (decide (a ≤ b) && decide (b ≤ c))) := by
  unfold chainO
  simp only [Option.bind_some, dLe_ii, isB_s]
  cases decide (a ≤ b) <;> simp
theorem s_is_int (v lo hi : Int) : g_is_int [.int v, .int lo, .int hi] = some (.bool (decide (lo ≤ v) && decide (v ≤ hi))) := by
  simp only [g_is_int, b_is_int, B_is_int, chain_le]
  rfl
theorem s_are_ints {n : Nat} (hn : n ≤ 100000) (a : Nat → Int) (lo hi : Int) : g_are_ints [tR n a, .int lo, .int hi] = some (.bool ((List.range n).all fun i => decide (lo ≤ a i) && decide (a i ≤ hi))) := by
  simp only [g_are_ints, b_are_ints, B_are_ints, Option.bind_some, iterD_t]
  rw [lcF_all (fun i => .int (a i)) (fun i => .bool (decide (lo ≤ a i) && decide (a i ≤ hi))) (List.range n) fun i _ => ⟨_, rfl, by
    simp only [consO_s, Option.bind_some]
    exact s_is_int _ _ _⟩, lenOk_s (by simp; exact hn)]
  rw [Option.map_some, consO_s, Option.bind_some, dAll_map]
  rfl
theorem s_is_bucket {b e : Int} (hb : 1 ≤ b ∧ b ≤ 1000000) (he : 1 ≤ e ∧ e ≤ 1000000) : g_is_bucket [bkD b e] = some (.bool true) := by
  have h := s_are_ints (n := 2) (by decide) (fun i => if i = 0 then b else e) 1 1000000
  have e2 : tR 2 (fun i => if i = 0 then b else e) = bkD b e := rfl
  rw [e2] at h
  simp only [g_is_bucket, b_is_bucket, B_is_bucket, consO_s, Option.bind_some, dLen_t, h]
  have q : ((List.range 2).all fun i => decide (1 ≤ (if i = 0 then b else e)) && decide ((if i = 0 then b else e) ≤ 1000000)) = true := by
    simp [List.range_succ, hb, he]
  rw [q]
  rfl
theorem s_are_buckets {m : Nat} (h1 : 1 ≤ m) (h2 : m ≤ 6) (b e : Nat → Int) (h : ∀ i, i < m → (1 ≤ b i ∧ b i ≤ 1000000) ∧ 1 ≤ e i ∧ e i ≤ 1000000) : g_are_buckets [.tuple ((List.range m).map fun i => bkD (b i) (e i))] = some (.bool true) := by
  simp only [g_are_buckets, b_are_buckets, B_are_buckets, consO_s, Option.bind_some, dLen_t, List.length_map, List.length_range, chain_le, iterD_t]
  rw [lcF_all (fun i => bkD (b i) (e i)) (fun i => .bool true) (List.range m) fun i hi => ⟨_, rfl, by
    have q := h i (List.mem_range.mp hi)
    exact s_is_bucket q.1 q.2⟩, lenOk_s (by simp; omega)]
  rw [decide_eq_true (show (1 : Int) ≤ (m : Nat) by omega), decide_eq_true (show ((m : Nat) : Int) ≤ 6 by omega)]
  rw [Option.map_some, consO_s, Option.bind_some, dAll_map]
  simp [dIsi]
/-- a row that may come -/
structure Okr (n : Nat) (a : Nat → Int) : Prop where
  len : n ≤ 200
  lo : ∀ i, i < n → 0 ≤ a i
  hi : ∀ i, i < n → a i ≤ 1000000
  up : ∀ i j, i ≤ j → j < n → a i ≤ a j
theorem s_are_arrivals {n : Nat} {a : Nat → Int} (o : Okr n a) : g_are_arrivals [tR n a] = some (.bool true) := by
  have hl := o.len
  have h := s_are_ints (n := n) (by omega) a 0 1000000
  have q : ((List.range n).all fun i => decide (0 ≤ a i) && decide (a i ≤ 1000000)) = true := by
    rw [List.all_eq_true]
    intro i hi
    have hi := List.mem_range.mp hi
    rw [decide_eq_true (o.lo i hi), decide_eq_true (o.hi i hi)]
    rfl
  rw [q] at h
  have dr : (rowD n a).drop 1 = rowD (n - 1) (fun i => a (i + 1)) := by
    apply List.ext_getElem?
    intro i
    rw [List.getElem?_drop, List.getElem?_map, List.getElem?_map]
    by_cases hi : i < n - 1
    · rw [List.getElem?_range (by omega), List.getElem?_range hi]
      simp [Nat.add_comm]
    · rw [List.getElem?_eq_none (by simp; omega), List.getElem?_eq_none (by simp; omega)]
      rfl
  simp only [g_are_arrivals, b_are_arrivals, B_are_arrivals, isI_s, Option.map_some, sl_from1, consO_s, Option.bind_some, dLen_t, h, rowD_len, bin_s, dGt_ii, isB_s]
  rw [decide_eq_false (show ¬ (200 : Int) < (n : Nat) by omega)]
  have z : dZip2 [tR n a, .tuple ((rowD n a).drop 1)] = some ((List.range (n - 1)).map fun i => .tuple [.int (a i), .int (a (i + 1))]) := by
    show some (zip2L (rowD n a) ((rowD n a).drop 1)) = _
    rw [dr, zip_rg, show min n (n - 1) = n - 1 by omega]
  rw [z, Option.bind_some, lcF_all (pm := un2 some some) (fun i => .tuple [.int (a i), .int (a (i + 1))]) (fun i => .bool (decide (a i ≤ a (i + 1)))) (List.range (n - 1)) fun i _ => ⟨(.int (a i), .int (a (i + 1))), rfl, dLe_ii _ _⟩, lenOk_s (by simp; omega)]
  rw [Option.map_some, consO_s, Option.bind_some, dAll_map]
  have q2 : ((List.range (n - 1)).all fun i => decide (a i ≤ a (i + 1))) = true := by
    rw [List.all_eq_true]
    intro i hi
    have hi := List.mem_range.mp hi
    exact decide_eq_true (o.up i (i + 1) (by omega) (by omega))
  rw [q2]
  rfl
/-- a bucket that may be -/
structure Okb (b e : Int) : Prop where
  b1 : 1 ≤ b
  b2 : b ≤ 1000000
  e1 : 1 ≤ e
  e2 : e ≤ 1000000
theorem s_look {n : Nat} {a : Nat → Int} {b e : Int} (o : Okr n a) (q : Okb b e) : g_look_at_both [tR n a, bkD b e] = some .none := by
  simp only [g_look_at_both, b_look_at_both, B_look_at_both, consO_s, Option.bind_some, s_are_arrivals o, s_is_bucket ⟨q.b1, q.b2⟩ ⟨q.e1, q.e2⟩]
  rfl
theorem nat_1000 {x : Int} (h1 : -1000000000000 ≤ x) (h2 : x ≤ 1000000000000) : x.natAbs < 2 ^ 60 := by omega
theorem s_within {b e t : Int} (q : Okb b e) : g_most_within [bkD b e, .int t] = some (.int (b + t / e)) := by
  have h : dFdiv (.int t) (.int e) = some (.int (t / e)) := dFdiv_ii (by have := q.e1; omega) (Nat.lt_of_lt_of_le (nat_1000 (by have := q.e1; omega) (by have := q.e2; omega)) p60)
  have h0 : dIx (bkD b e) (.int 0) = some (.int b) := rfl
  have h1 : dIx (bkD b e) (.int 1) = some (.int e) := rfl
  simp only [g_most_within, b_most_within, B_most_within, bin_s, h0, h1, h, dPlus_ii]
  rfl
/-! told_crowd, fits -/
theorem fit_pair {b e x y : Int} {m k : Nat} (he : 1 ≤ e) (h : m ≤ k) (hxy : x ≤ y) : x + phi b e (k - m) ≤ y ↔ ¬ (b + (y - x) / e < (k : Int) - m + 1) := by
  have e1 : ((k - m : Nat) : Int) = (k : Int) - m := by omega
  constructor
  · intro h1 h2
    have h3 := phi_ge (b := b) (e := e) (by omega) (k - m)
    rw [e1] at h3
    have h4 : ((k : Int) - m + 1 - b) * e ≤ y - x := by omega
    have h5 := (Int.le_ediv_iff_mul_le (by omega : 0 < e)).mpr h4
    omega
  · intro h1
    have h2 : phi b e (k - m) ≤ y - x := phi_le (by omega) fun _ => by
      rw [e1]
      exact (Int.le_ediv_iff_mul_le (by omega : 0 < e)).mp (by omega)
    omega
theorem ix_row {n : Nat} (a : Nat → Int) {i : Nat} (h : i < n) : dIx (tR n a) (.int (i : Nat)) = some (.int (a i)) := by
  rw [ix_t (by rw [rowD_len]; exact h)]
  simp
theorem ix_rowl {n : Nat} (a : Nat → Int) {i : Nat} (h : i < n) : dIx (.list (rowD n a)) (.int (i : Nat)) = some (.int (a i)) := by
  rw [ix_l (by rw [rowD_len]; exact h)]
  simp
theorem s_crowd_in {n : Nat} {a : Nat → Int} {b e : Int} (o : Okr n a) (q : Okb b e) {k m : Nat} (hk : k < n) (hm : m ≤ k) :
    (a m + phi b e (k - m) ≤ a k ∧ L1_told_crowd (tR n a) (bkD b e) (.int (k : Nat)) (.int (a k)) () (.int (m : Nat)) = some (.nx ())) ∨
    (¬ (a m + phi b e (k - m) ≤ a k) ∧ ∃ z, (∃ f l : Int, z = .tuple [.int f, .int l]) ∧ L1_told_crowd (tR n a) (bkD b e) (.int (k : Nat)) (.int (a k)) () (.int (m : Nat)) = some (.rt z)) := by
  have fp := fit_pair (b := b) (x := a m) (y := a k) (m := m) (k := k) q.e1 hm (o.up m k hm hk)
  have ev : ∀ t : Bool, decide (b + (a k - a m) / e < (k : Int) - m + 1) = t → L1_told_crowd (tR n a) (bkD b e) (.int (k : Nat)) (.int (a k)) () (.int (m : Nat)) = if t then some (.rt (.tuple [.int (m : Nat), .int (k : Nat)])) else some (.nx ()) := fun t ht => by
    simp only [L1_told_crowd, bin_s, dSub_ii, dPlus_ii, ix_row a (show m < n by omega), consO_s, Option.bind_some, s_within q, dGt_ii, isB_s, ht]
    cases t <;> rfl
  by_cases h : a m + phi b e (k - m) ≤ a k
  · exact .inl ⟨h, (ev false (decide_eq_false (fp.mp h))).trans rfl⟩
  · refine .inr ⟨h, _, ⟨m, k, rfl⟩, (ev true (decide_eq_true ?_)).trans rfl⟩
    by_cases h2 : b + (a k - a m) / e < (k : Int) - m + 1
    · exact h2
    · exact absurd (fp.mpr h2) h
theorem s_crowd_row {n : Nat} {a : Nat → Int} {b e : Int} (o : Okr n a) (q : Okb b e) {k : Nat} (hk : k < n) :
    ((∀ m, m ≤ k → a m + phi b e (k - m) ≤ a k) ∧ L2_told_crowd (tR n a) (bkD b e) () (.int (k : Nat), .int (a k)) = some (.nx ())) ∨
    (¬ (∀ m, m ≤ k → a m + phi b e (k - m) ≤ a k) ∧ ∃ z, (∃ f l : Int, z = .tuple [.int f, .int l]) ∧ L2_told_crowd (tR n a) (bkD b e) () (.int (k : Nat), .int (a k)) = some (.rt z)) := by
  have hl := o.len
  have rg : dR1 (.int ((k : Int) + 1)) = some ((List.range (k + 1)).map fun i => .int (i : Nat)) := by
    have := range_0 (n := k + 1) (by omega)
    rw [show ((k + 1 : Nat) : Int) = (k : Int) + 1 by omega] at this
    exact this
  have f := forF_find (f := fun l x => (some x).bind (L1_told_crowd (tR n a) (bkD b e) (.int (k : Nat)) (.int (a k)) l)) (l := ()) (fun i : Nat => .int (i : Nat)) (fun m => a m + phi b e (k - m) ≤ a k) (fun z => ∃ f l : Int, z = .tuple [.int f, .int l]) (List.range (k + 1)) fun m hm => by
    simp only [Option.bind_some]
    exact s_crowd_in o q hk (by have := List.mem_range.mp hm; omega)
  rcases f with ⟨f1, f2⟩ | ⟨⟨m, f1, f3⟩, z, f4, f5⟩
  · refine .inl ⟨fun m hm => f1 m (List.mem_range.mpr (by omega)), ?_⟩
    simp only [Option.bind_some] at f2
    simp only [L2_told_crowd, bin_s, dPlus_ii, rg, Option.bind_some]
    rw [f2]
    rfl
  · refine .inr ⟨fun h => f3 (h m (by have := List.mem_range.mp f1; omega)), z, f4, ?_⟩
    simp only [Option.bind_some] at f5
    simp only [L2_told_crowd, bin_s, dPlus_ii, rg, Option.bind_some]
    rw [f5]
    rfl
theorem s_crowd {n : Nat} {a : Nat → Int} {b e : Int} (o : Okr n a) (q : Okb b e) :
    (Fit n a b e ∧ g_told_crowd [tR n a, bkD b e] = some .none) ∨ (¬ Fit n a b e ∧ ∃ f l : Int, g_told_crowd [tR n a, bkD b e] = some (.tuple [.int f, .int l])) := by
  have f := forF_find (f := fun l x => ((un2 some some) x).bind (L2_told_crowd (tR n a) (bkD b e) l)) (l := ()) (fun i : Nat => .tuple [.int (i : Nat), .int (a i)]) (fun k => ∀ m, m ≤ k → a m + phi b e (k - m) ≤ a k) (fun z => ∃ f l : Int, z = .tuple [.int f, .int l]) (List.range n) fun k hk => by
    simp only [un2_s, Option.bind_some, Option.map_some]
    exact s_crowd_row o q (List.mem_range.mp hk)
  rcases f with ⟨f1, f2⟩ | ⟨⟨k, f1, f3⟩, z, ⟨x, y, rfl⟩, f5⟩
  · refine .inl ⟨fun m k hm hk => f1 k (List.mem_range.mpr hk) m hm, ?_⟩
    simp only [g_told_crowd, b_told_crowd, B_told_crowd, Option.bind_some, enum_rg, f2]
    rfl
  · refine .inr ⟨fun h => f3 fun m hm => h m k hm (List.mem_range.mp f1), x, y, ?_⟩
    simp only [g_told_crowd, b_told_crowd, B_told_crowd, Option.bind_some, enum_rg, f5]
    rfl
abbrev fitsD : D := .tuple [.str "fits"]
theorem s_fits {n : Nat} {a : Nat → Int} {b e : Int} (o : Okr n a) (q : Okb b e) :
    (Fit n a b e ∧ g_fits [tR n a, bkD b e] = some fitsD) ∨ (¬ Fit n a b e ∧ ∃ f l : Int, g_fits [tR n a, bkD b e] = some (.tuple [.str "crowd", .int f, .int l])) := by
  rcases s_crowd o q with ⟨h1, h2⟩ | ⟨h1, f, l, h2⟩
  · refine .inl ⟨h1, ?_⟩
    simp only [g_fits, b_fits, B_fits, consO_s, Option.bind_some, s_look o q, h2]
    rfl
  · refine .inr ⟨h1, f, l, ?_⟩
    simp only [g_fits, b_fits, B_fits, consO_s, Option.bind_some, s_look o q, h2]
    rfl
end DL

set_option Elab.async false
set_option linter.all false
set_option maxRecDepth 100000
set_option maxHeartbeats 2000000
set_option autoImplicit false
namespace DL
open PySem PySem.Spec PyProof.Rows L2 K61
/-! ### told_held -/
theorem rowD_eq (n : Nat) (a : Nat → Int) : rowD n a = ((List.range n).map a).map .int := by
  rw [List.map_map]
  rfl
theorem canLay_ints (xs : List Int) : PyData.canLayAll0 (xs.map .int) = true := by
  induction xs with
  | nil => rfl
  | cons x r ih => exact ih
theorem rowD_succ (n : Nat) (a : Nat → Int) : rowD (n + 1) a = rowD n a ++ [.int (a n)] := by
  show (List.range (n + 1)).map _ = _
  rw [List.range_succ, List.map_append]
  rfl
theorem mul_small {x y : Int} (hx : -1000000 ≤ x) (hx' : x ≤ 1000000) (hy : -1000000 ≤ y) (hy' : y ≤ 1000000) : dMul (.int x) (.int y) = some (.int (x * y)) := dMul_60 (by omega) (by omega)
/-- one earlier letter is looked at -/
theorem s_held_in {b e : Int} (q : Okb b e) {h : Nat → Int} {k m : Nat} (hk : k ≤ 1000) (hm : m < k) (x : Int) : L1_told_held (.int b) (.int e) (rowD k h) (.int (k : Nat)) (.int x) (.int (m : Nat)) = some (.nx (.int (if decide (0 < (k : Int) - m + 1 - b) then max x (h m + ((k : Int) - m + 1 - b) * e) else x))) := by
  have := q.b1
  have := q.b2
  have := q.e1
  have := q.e2
  simp only [L1_told_held, bin_s, dSub_ii, dPlus_ii, Option.bind_some, dGt_ii, isB_s, ix_rowl h hm, mul_small (show -1000000 ≤ (k : Int) - m + 1 - b by omega) (show (k : Int) - m + 1 - b ≤ 1000000 by omega) (show -1000000 ≤ e by omega) (show e ≤ 1000000 by omega), consO_s, dMax_ii]
  cases decide (0 < (k : Int) - m + 1 - b) <;> rfl
theorem fold_held {b e : Int} (q : Okb b e) {n : Nat} {a : Nat → Int} (o : Okr n a) {k : Nat} (hk : k < n) :
    (List.range k).foldl (fun (x : Int) (m : Nat) => if decide (0 < (k : Int) - m + 1 - b) then max x (H a b e m + ((k : Int) - m + 1 - b) * e) else x) (if k = 0 then a 0 else max (a k) (H a b e (k - 1))) = H a b e k := by
  have hb := q.b1
  have he : 0 ≤ e := by have := q.e1; omega
  refine eq_of_le fun c => ?_
  rw [fold_max (c := fun m : Nat => decide (0 < (k : Int) - m + 1 - b)) (v := fun m : Nat => H a b e m + ((k : Int) - m + 1 - b) * e)]
  constructor
  · rintro ⟨h1, h2⟩
    refine H_le.mpr fun m hm => ?_
    by_cases hmk : m = k
    · subst hmk
      rw [Nat.sub_self, phi_zero hb]
      by_cases h0 : m = 0
      · rw [if_pos h0] at h1
        rw [h0]
        omega
      · rw [if_neg h0] at h1
        omega
    · have e1 : ((k - m : Nat) : Int) = (k : Int) - m := by omega
      have h3 := H_self (a := a) (b := b) he m
      by_cases hs : ((k - m : Nat) : Int) + 1 ≤ b
      · rw [phi_small hs]
        rw [if_neg (by omega)] at h1
        have h4 := H_mono (a := a) hb he (show m ≤ k - 1 by omega)
        omega
      · rw [phi_big hs, e1]
        have h4 := h2 m (List.mem_range.mpr (by omega)) (decide_eq_true (by omega))
        omega
  · intro h
    have hs := H_self (a := a) (b := b) he k
    refine ⟨?_, fun m hm hc => ?_⟩
    · by_cases h0 : k = 0
      · subst h0
        rw [if_pos rfl]
        omega
      · rw [if_neg h0]
        have := H_mono (a := a) hb he (show k - 1 ≤ k by omega)
        omega
    · have hm' := List.mem_range.mp hm
      have h3 := H_P (a := a) hb he (show m ≤ k by omega)
      have h4 := phi_ge (b := b) he (k - m)
      have e1 : ((k - m : Nat) : Int) = (k : Int) - m := by omega
      rw [e1] at h4
      omega
theorem s_held_row {b e : Int} (q : Okb b e) {n : Nat} {a : Nat → Int} (o : Okr n a) {k : Nat} (hk : k < n) : L2_told_held (.int b) (.int e) (rowD k (H a b e)) (.int (k : Nat), .int (a k)) = some (.nx (rowD (k + 1) (H a b e))) := by
  have hl := o.len
  have first : (iteO ((bin dNe (some (.list (rowD k (H a b e)))) ((lenOk (some [])).map .list)).bind isB) ((consO (some (.int (a k))) (consO (bin dIx (some (.list (rowD k (H a b e)))) ((some (.int 1)).bind dNeg)) (some []))).bind dMax) (some (.int (a k)))) = some (.int (if k = 0 then a 0 else max (a k) (H a b e (k - 1)))) := by
    have ne : dNe (.list (rowD k (H a b e))) (.list []) = some (.bool (!decide (k = 0))) := by
      have sh : SeqAt.shaped (.list (rowD k (H a b e))) = true := by
        unfold SeqAt.shaped
        rw [rowD_eq]
        refine Bool.and_eq_true_iff.mpr ⟨canLay_ints _, decide_eq_true ?_⟩
        show PyData.depthAll (((List.range k).map (H a b e)).map .int) + 1 ≤ 64
        rw [depth_ints]
        decide
      refine (if_pos (by rw [sh]; rfl)).trans ?_
      cases k with
      | zero => rfl
      | succ k => 
        rw [rowD, List.range_succ_eq_map]
        rfl
    rw [lenOk_s (by simp), Option.map_some, bin_s, ne, Option.bind_some, isB_s]
    by_cases h0 : k = 0
    · rw [decide_eq_true h0, if_pos h0, h0]
      rfl
    · rw [decide_eq_false h0, if_neg h0]
      have last : dIx (.list (rowD k (H a b e))) (.int (-1)) = some (.int (H a b e (k - 1))) := by
        rw [ix_last_l (by rw [rowD_len]; omega)]
        simp
      rw [Option.bind_some, dNeg_i, bin_s, last, consO_s, consO_s, Option.bind_some, dMax_ii]
      rfl
  have fold := forF_fold (f := fun l x => L1_told_held (.int b) (.int e) (rowD k (H a b e)) (.int (k : Nat)) l x) (fun m : Nat => .int (m : Nat)) (fun x : Int => PyData.int x) (fun (x : Int) (m : Nat) => if decide (0 < (k : Int) - m + 1 - b) then max x (H a b e m + ((k : Int) - m + 1 - b) * e) else x) (fun _ _ => True) (List.range k) (if k = 0 then a 0 else max (a k) (H a b e (k - 1))) 0 trivial
    fun i m s hi _ => ⟨s_held_in q (by omega) (by have := (List.getElem?_eq_some_iff.mp hi).1; have h2 := (List.getElem?_eq_some_iff.mp hi).2; rw [List.length_range] at this; rw [List.getElem_range] at h2; omega) s, trivial⟩
  rw [fold_held q o hk] at fold
  unfold L2_told_held
  dsimp only
  rw [first]
  simp only [Option.bind_some, range_0 (show k ≤ 100000 by omega), fold.1, seqLp_nx, appD_s (show (rowD k (H a b e)).length < 100000 by rw [rowD_len]; omega), ← rowD_succ]
theorem s_held {n : Nat} {a : Nat → Int} {b e : Int} (o : Okr n a) (q : Okb b e) : g_told_held [tR n a, bkD b e] = some (tR n (H a b e)) := by
  have fold := forF_fold (f := fun l x => ((un2 some some) x).bind (L2_told_held (.int b) (.int e) l)) (fun k : Nat => .tuple [.int (k : Nat), .int (a k)]) (fun k : Nat => rowD k (H a b e)) (fun k _ => k + 1) (fun i k => k = i) (List.range n) 0 0 rfl
    fun i k s hi hs => by
      have h1 := (List.getElem?_eq_some_iff.mp hi).1
      have h2 := (List.getElem?_eq_some_iff.mp hi).2
      rw [List.length_range] at h1
      rw [List.getElem_range] at h2
      have hs' : s = k := by omega
      subst hs'
      refine ⟨?_, by omega⟩
      simp only [un2_s, Option.bind_some, Option.map_some]
      exact s_held_row q o (by omega)
  obtain ⟨f1, f2⟩ := fold
  rw [List.length_range, Nat.zero_add] at f2
  rw [f2] at f1
  simp only [g_told_held, b_told_held, B_told_held, Option.bind_some, un2_s, Option.map_some, lenOk_s (show ([] : List D).length ≤ 100000 by decide), enum_rg]
  have f1' : forF (fun l x => ((un2 some some) x).bind (L2_told_held (.int b) (.int e) l)) ((List.range n).map fun k => .tuple [.int (k : Nat), .int (a k)]) [] = some (.nx (rowD n (H a b e))) := f1
  rw [f1']
  rfl
end DL

set_option Elab.async false
set_option linter.all false
set_option maxRecDepth 100000
set_option maxHeartbeats 2000000
set_option autoImplicit false
namespace DL
open PySem PySem.Spec PyProof.Rows L2 K61
theorem s_back {n : Nat} {a : Nat → Int} {b e : Int} (o : Okr n a) (q : Okb b e) : g_held_back [tR n a, bkD b e] = some (tR n (H a b e)) := by
  simp only [g_held_back, b_held_back, B_held_back, consO_s, Option.bind_some, s_look o q, s_held o q]
  rfl
/-! the longest wait -/
def Wt (n : Nat) (a : Nat → Int) (b e : Int) : Int := maxI 0 ((List.range n).map fun i => H a b e i - a i)
theorem Wt_le {n : Nat} {a : Nat → Int} {b e c : Int} : Wt n a b e ≤ c ↔ 0 ≤ c ∧ ∀ i, i < n → H a b e i - a i ≤ c := by
  unfold Wt
  rw [maxI_le]
  simp
theorem zip_rows (n : Nat) (a c : Nat → Int) : dZip2 [tR n a, tR n c] = some ((List.range n).map fun i => .tuple [.int (a i), .int (c i)]) := by
  show some (zip2L (rowD n a) (rowD n c)) = _
  rw [zip_rg, Nat.min_self]
theorem diffs (n : Nat) (a c : Nat → Int) : lcF (un2 some some) (fun _ : D × D => some true) (fun p : D × D => bin dSub (some p.2) (some p.1)) ((List.range n).map fun i => .tuple [.int (a i), .int (c i)]) = some (((List.range n).map fun i => c i - a i).map .int) := by
  rw [lcF_all (pm := un2 some some) (fun i => .tuple [.int (a i), .int (c i)]) (fun i => .int (c i - a i)) (List.range n) fun i _ => ⟨(.int (a i), .int (c i)), rfl, rfl⟩, List.map_map]
  rfl
theorem s_wait {n : Nat} {a : Nat → Int} {b e : Int} (o : Okr n a) (q : Okb b e) : g_longest_wait [tR n a, bkD b e] = some (.int (Wt n a b e)) := by
  have hl := o.len
  have s : consO (some (.int 0)) (starO (some (.list (((List.range n).map fun i => H a b e i - a i).map .int))) (some [])) = some ((0 :: (List.range n).map fun i => H a b e i - a i).map .int) := by
    show some (PyData.int 0 :: ((((List.range n).map fun i => H a b e i - a i).map .int) ++ [])) = _
    rw [List.append_nil]
    rfl
  simp only [g_longest_wait, b_longest_wait, B_longest_wait, consO_s, Option.bind_some, s_look o q, s_held o q, zip_rows]
  rw [diffs, lenOk_s (by simp; omega), Option.map_some, s, lenOk_s (by simp; omega), Option.map_some, consO_s, Option.bind_some, dMax_l]
  rfl
/-! through several buckets -/
theorem Okr.held {n : Nat} {a : Nat → Int} {b e : Int} (o : Okr n a) (q : Okb b e) {A : Int} (hA : ∀ i, i < n → a i ≤ A) (hs : A + n * e ≤ 1000000) : Okr n (H a b e) where
  len := o.len
  lo := fun i hi => by
    have := H_self (a := a) (b := b) (e := e) (by have := q.e1; omega) i
    have := o.lo i hi
    omega
  hi := fun i hi => by
    have h1 := H_up (a := a) (e := e) q.b1 (by have := q.e1; omega) (A := A) (n := i) fun j hj => hA j (by omega)
    have h2 : (i : Int) * e ≤ n * e := Int.mul_le_mul_of_nonneg_right (by omega) (by have := q.e1; omega)
    omega
  up := fun i j h hj => H_mono q.b1 (by have := q.e1; omega) h
/-- the row behind all buckets -/
def thru (a : Nat → Int) : List (Int × Int) → Nat → Int
  | [] => a
  | p :: r => thru (H a p.1 p.2) r
/-- good buckets, by the row they meet -/
def OkT (n : Nat) (a : Nat → Int) : List (Int × Int) → Prop
  | [] => True
  | p :: r => Okb p.1 p.2 ∧ Okr n (H a p.1 p.2) ∧ OkT n (H a p.1 p.2) r
theorem s_thru_for {n : Nat} : ∀ (bs : List (Int × Int)) {a : Nat → Int}, Okr n a → OkT n a bs → forF (L := D) (R := D) (fun l x => (some x).bind (L1_through_all l)) (bs.map fun p => bkD p.1 p.2) (tR n a) = some (.nx (tR n (thru a bs)))
  | [], a, _, _ => rfl
  | p :: r, a, o, ⟨q, o2, t⟩ => by
    have h1 : L1_through_all (tR n a) (bkD p.1 p.2) = some (.nx (tR n (H a p.1 p.2))) := by
      simp only [L1_through_all, consO_s, Option.bind_some, s_held o q]
    have ih := s_thru_for r o2 t
    rw [List.map_cons, forF_cons]
    simp only [Option.bind_some] at ih ⊢
    rw [h1]
    exact ih
theorem s_thru {n : Nat} {a : Nat → Int} {bs : List (Int × Int)} (o : Okr n a) (h1 : bs ≠ []) (h2 : bs.length ≤ 6) (t : OkT n a bs) (hb : ∀ p ∈ bs, Okb p.1 p.2) : g_through_all [tR n a, .tuple (bs.map fun p => bkD p.1 p.2)] = some (tR n (thru a bs)) := by
  have e : (bs.map fun p => bkD p.1 p.2) = (List.range bs.length).map fun i => bkD (bs.getD i (1, 1)).1 (bs.getD i (1, 1)).2 := by
    apply List.ext_getElem?
    intro i
    rw [List.getElem?_map, List.getElem?_map]
    by_cases hi : i < bs.length
    · rw [List.getElem?_range hi, List.getElem?_eq_getElem hi]
      simp [List.getD_eq_getElem?_getD, hi]
    · rw [List.getElem?_eq_none (by omega), List.getElem?_eq_none (by simp; omega)]
      rfl
  have hbk : g_are_buckets [.tuple (bs.map fun p => bkD p.1 p.2)] = some (.bool true) := by
    rw [e]
    refine s_are_buckets (by have := List.length_pos_iff.mpr h1; omega) h2 _ _ fun i hi => ?_
    have hm : bs.getD i (1, 1) ∈ bs := by
      rw [List.getD_eq_getElem?_getD, List.getElem?_eq_getElem hi]
      exact List.getElem_mem hi
    have q := hb _ hm
    exact ⟨⟨q.b1, q.b2⟩, q.e1, q.e2⟩
  have f := s_thru_for bs o t
  simp only [Option.bind_some] at f
  simp only [g_through_all, b_through_all, B_through_all, consO_s, Option.bind_some, s_are_arrivals o, hbk, iterD_t, f]
  rfl
/-! the least burst -/
def burstAt (a : Nat → Int) (e : Int) (k m : Nat) : Int := (k : Int) - m + 1 - (a k - a m) / e
def LB (n : Nat) (a : Nat → Int) (e : Int) : Int := (List.range n).foldl (fun (f : Int) (k : Nat) => (List.range (k + 1)).foldl (fun (f : Int) (m : Nat) => max f (burstAt a e k m)) f) 1
theorem fold_max1 {v : Nat → Int} (xs : List Nat) (h b : Int) : xs.foldl (fun (h : Int) (m : Nat) => max h (v m)) h ≤ b ↔ h ≤ b ∧ ∀ m ∈ xs, v m ≤ b := by
  have := fold_max (c := fun _ : Nat => true) (v := v) xs h b
  simpa using this
theorem LB_le {n : Nat} {a : Nat → Int} {e c : Int} : LB n a e ≤ c ↔ 1 ≤ c ∧ ∀ k m, m ≤ k → k < n → burstAt a e k m ≤ c := by
  have gen : ∀ (xs : List Nat) (h : Int), xs.foldl (fun (f : Int) (k : Nat) => (List.range (k + 1)).foldl (fun (f : Int) (m : Nat) => max f (burstAt a e k m)) f) h ≤ c ↔ h ≤ c ∧ ∀ k ∈ xs, ∀ m, m ≤ k → burstAt a e k m ≤ c := by
    intro xs
    induction xs with
    | nil => simp
    | cons x r ih =>
      intro h
      rw [List.foldl_cons, ih, fold_max1, and_assoc]
      simp only [List.mem_cons, forall_eq_or_imp, List.mem_range]
      constructor
      · rintro ⟨h1, h2, h3⟩
        exact ⟨h1, fun m hm => h2 m (by omega), h3⟩
      · rintro ⟨h1, h2, h3⟩
        exact ⟨h1, fun m hm => h2 m (by omega), h3⟩
  unfold LB
  rw [gen]
  constructor
  · rintro ⟨h1, h2⟩
    exact ⟨h1, fun k m hm hk => h2 k (List.mem_range.mpr hk) m hm⟩
  · rintro ⟨h1, h2⟩
    exact ⟨h1, fun k hk m hm => h2 k m hm (List.mem_range.mp hk)⟩
theorem s_burst_in {n : Nat} {a : Nat → Int} {e : Int} (o : Okr n a) (h1 : 1 ≤ e) (h2 : e ≤ 1000000) {k m : Nat} (hm : m ≤ k) (hk : k < n) (x : Int) : L1_least_burst (tR n a) (.int e) (.int (k : Nat)) (.int (a k)) (.int x) (.int (m : Nat)) = some (.nx (.int (max x (burstAt a e k m)))) := by
  have hd : dFdiv (.int (a k - a m)) (.int e) = some (.int ((a k - a m) / e)) := dFdiv_ii (by omega) (Nat.lt_of_lt_of_le (nat_1000 (by omega) (by omega)) p60)
  simp only [L1_least_burst, bin_s, dSub_ii, dPlus_ii, ix_row a (show m < n by omega), hd, consO_s, Option.bind_some, dMax_ii]
  rfl
theorem s_burst_row {n : Nat} {a : Nat → Int} {e : Int} (o : Okr n a) (h1 : 1 ≤ e) (h2 : e ≤ 1000000) {k : Nat} (hk : k < n) (x : Int) : L2_least_burst (tR n a) (.int e) (.int x) (.int (k : Nat), .int (a k)) = some (.nx (.int ((List.range (k + 1)).foldl (fun (f : Int) (m : Nat) => max f (burstAt a e k m)) x))) := by
  have hl := o.len
  have rg : dR1 (.int ((k : Int) + 1)) = some ((List.range (k + 1)).map fun i => .int (i : Nat)) := by
    have := range_0 (n := k + 1) (by omega)
    rw [show ((k + 1 : Nat) : Int) = (k : Int) + 1 by omega] at this
    exact this
  have fold := forF_fold (f := fun l x => L1_least_burst (tR n a) (.int e) (.int (k : Nat)) (.int (a k)) l x) (fun m : Nat => .int (m : Nat)) (fun x : Int => PyData.int x) (fun (f : Int) (m : Nat) => max f (burstAt a e k m)) (fun _ _ => True) (List.range (k + 1)) x 0 trivial
    fun i m s hi _ => ⟨s_burst_in o h1 h2 (by have h1 := (List.getElem?_eq_some_iff.mp hi).1; have h2 := (List.getElem?_eq_some_iff.mp hi).2; rw [List.length_range] at h1; rw [List.getElem_range] at h2; omega) hk s, trivial⟩
  simp only [L2_least_burst, bin_s, dPlus_ii, rg, Option.bind_some, fold.1, seqLp_nx]
theorem s_burst {n : Nat} {a : Nat → Int} {e : Int} (o : Okr n a) (h1 : 1 ≤ e) (h2 : e ≤ 1000000) : g_least_burst [tR n a, .int e] = some (.int (LB n a e)) := by
  have fold := forF_fold (f := fun l x => ((un2 some some) x).bind (L2_least_burst (tR n a) (.int e) l)) (fun k : Nat => .tuple [.int (k : Nat), .int (a k)]) (fun x : Int => PyData.int x) (fun (f : Int) (k : Nat) => (List.range (k + 1)).foldl (fun (f : Int) (m : Nat) => max f (burstAt a e k m)) f) (fun _ _ => True) (List.range n) 1 0 trivial
    fun i k s hi _ => by
      have h3 := (List.getElem?_eq_some_iff.mp hi).1
      have h4 := (List.getElem?_eq_some_iff.mp hi).2
      rw [List.length_range] at h3
      rw [List.getElem_range] at h4
      refine ⟨?_, trivial⟩
      simp only [un2_s, Option.bind_some, Option.map_some]
      exact s_burst_row o h1 h2 (by omega) s
  have f1 := fold.1
  simp only [g_least_burst, b_least_burst, B_least_burst, consO_s, Option.bind_some, s_are_arrivals o, s_is_int, decide_eq_true h1, decide_eq_true h2, enum_rg, f1]
  rfl
/-! the law's own rows -/
theorem s_later {n : Nat} (hn : n ≤ 100000) (a : Nat → Int) (by_ : Int) : g__law_later [tR n a, .int by_] = some (tR n fun i => a i + by_) := by
  simp only [g__law_later, b__law_later, B__law_later, Option.bind_some, iterD_t]
  rw [lcF_all (fun i => .int (a i)) (fun i => .int (a i + by_)) (List.range n) fun i _ => ⟨_, rfl, rfl⟩, lenOk_s (by simp; exact hn), Option.map_some, consO_s, Option.bind_some]
  rfl
theorem s_gone_row {n : Nat} {a : Nat → Int} {b e : Int} (o : Okr n a) (q : Okb b e) (hb : b ≤ 1000) {k : Nat} (hk : k < n) : L1__law_gone (bkD b e) (rowD k (H a b e)) (.int (k : Nat), .int (a k)) = some (.nx (rowD (k + 1) (H a b e))) := by
  have hl := o.len
  have := q.b1
  have := q.e1
  have := q.e2
  have i0 : dIx (bkD b e) (.int 0) = some (.int b) := rfl
  have i1 : dIx (bkD b e) (.int 1) = some (.int e) := rfl
  have lc : lcF some (fun p5 : D => ((bin dGe (bin dSub (some (.int (k : Nat))) (some p5)) (bin dIx (some (bkD b e)) (some (.int 0)))).bind isB)) (fun p5 : D => (bin dPlus (bin dIx (some (.list (rowD k (H a b e)))) (some p5)) (bin dMul (bin dSub (bin dPlus (bin dSub (some (.int (k : Nat))) (some p5)) (some (.int 1))) (bin dIx (some (bkD b e)) (some (.int 0)))) (bin dIx (some (bkD b e)) (some (.int 1)))))) ((List.range k).map fun i => .int (i : Nat)) =
      some ((((List.range k).filter fun m : Nat => decide (b ≤ (k : Int) - m)).map fun m : Nat => H a b e m + ((k : Int) - m + 1 - b) * e).map .int) := by
    rw [lcF_map (fun i : Nat => .int (i : Nat)) (fun m : Nat => decide (b ≤ (k : Int) - m)) (fun m : Nat => .int (H a b e m + ((k : Int) - m + 1 - b) * e)) (List.range k) fun m hm => ⟨_, rfl, by simp only [bin_s, dSub_ii, i0, dGe_ii, Option.bind_some, isB_s], fun _ => by
      have hm' := List.mem_range.mp hm
      simp only [bin_s, dSub_ii, i0, i1, ix_rowl (H a b e) hm', dPlus_ii, mul_small (show -1000000 ≤ (k : Int) - m + 1 - b by omega) (show (k : Int) - m + 1 - b ≤ 1000000 by omega) (show -1000000 ≤ e by omega) (show e ≤ 1000000 by omega)]⟩, List.map_map]
    rfl
  have mx : dMax [.list (((((List.range k).filter fun m : Nat => decide (b ≤ (k : Int) - m)).map fun m : Nat => H a b e m + ((k : Int) - m + 1 - b) * e).map .int) ++ [.int (a k)])] = some (.int (H a b e k)) := by
    have key : ∀ (l : List Int) (x : Int), dMax [.list (l.map .int ++ [.int x])] = some (.int (match l with | [] => x | y :: r => maxI y (r ++ [x]))) := by
      intro l x
      cases l with
      | nil => exact dMax_l x []
      | cons y r =>
        have := dMax_l y (r ++ [x])
        rw [List.map_cons, List.map_append] at this
        exact this
    rw [key]
    congr 2
    refine eq_of_le fun c => ?_
    have gen : ∀ (l : List Int) (x : Int), (match l with | [] => x | y :: r => maxI y (r ++ [x])) ≤ c ↔ x ≤ c ∧ ∀ y ∈ l, y ≤ c := by
      intro l x
      cases l with
      | nil => simp
      | cons y r =>
        show maxI y (r ++ [x]) ≤ c ↔ _
        rw [maxI_le]
        simp only [List.mem_append, List.mem_cons, forall_eq_or_imp, List.not_mem_nil, or_false]
        constructor
        · rintro ⟨h1, h2⟩
          exact ⟨h2 x (.inr rfl), h1, fun z hz => h2 z (.inl hz)⟩
        · rintro ⟨h1, h2, h3⟩
          refine ⟨h2, fun z hz => ?_⟩
          rcases hz with hz | hz
          · exact h3 z hz
          · rw [hz]
            exact h1
    rw [gen]
    have hb1 := q.b1
    have he : 0 ≤ e := by omega
    constructor
    · rintro ⟨h1, h2⟩
      refine H_le.mpr fun m hm => ?_
      by_cases hs : ((k - m : Nat) : Int) + 1 ≤ b
      · rw [phi_small hs]
        have := o.up m k hm hk
        omega
      · have e1 : ((k - m : Nat) : Int) = (k : Int) - m := by omega
        by_cases hmk : m = k
        · subst hmk
          rw [Nat.sub_self, phi_zero hb1]
          omega
        · have h3 := h2 (H a b e m + ((k : Int) - m + 1 - b) * e) (List.mem_map.mpr ⟨m, List.mem_filter.mpr ⟨List.mem_range.mpr (by omega), decide_eq_true (by omega)⟩, rfl⟩)
          rw [phi_big hs, e1]
          have := H_self (a := a) (b := b) he m
          omega
    · intro h
      have := H_self (a := a) (b := b) he k
      refine ⟨by omega, fun y hy => ?_⟩
      obtain ⟨m, hm, rfl⟩ := List.mem_map.mp hy
      have hm' := List.mem_range.mp (List.mem_filter.mp hm).1
      have h3 := H_P (a := a) hb1 he (show m ≤ k by omega)
      have h4 := phi_ge (b := b) he (k - m)
      have e1 : ((k - m : Nat) : Int) = (k : Int) - m := by omega
      rw [e1] at h4
      omega
  unfold L1__law_gone
  dsimp only
  have ll : ((((List.range k).filter fun m : Nat => decide (b ≤ (k : Int) - m)).map fun m : Nat => H a b e m + ((k : Int) - m + 1 - b) * e).map PyData.int).length ≤ 1000 := by
    rw [List.length_map, List.length_map]
    have := List.length_filter_le (fun m : Nat => decide (b ≤ (k : Int) - m)) (List.range k)
    rw [List.length_range] at this
    omega
  rw [Option.bind_some, range_0 (show k ≤ 100000 by omega), Option.bind_some, lc, lenOk_s (by omega), Option.bind_some, consO_s, lenOk_s (show [PyData.int (a k)].length ≤ 100000 by simp), Option.map_some, bin_s, dPlus_ll (by simp at ll ⊢; omega), consO_s, Option.bind_some, mx, Option.bind_some, appD_s (by rw [rowD_len]; omega), Option.bind_some, ← rowD_succ]
theorem s_gone {n : Nat} {a : Nat → Int} {b e : Int} (o : Okr n a) (q : Okb b e) (hb : b ≤ 1000) : g__law_gone [tR n a, bkD b e] = some (tR n (H a b e)) := by
  have fold := forF_fold (f := fun l x => ((un2 some some) x).bind (L1__law_gone (bkD b e) l)) (fun k : Nat => .tuple [.int (k : Nat), .int (a k)]) (fun k : Nat => rowD k (H a b e)) (fun k _ => k + 1) (fun i k => k = i) (List.range n) 0 0 rfl
    fun i k s hi hs => by
      have h1 := (List.getElem?_eq_some_iff.mp hi).1
      have h2 := (List.getElem?_eq_some_iff.mp hi).2
      rw [List.length_range] at h1
      rw [List.getElem_range] at h2
      have hs' : s = k := by omega
      subst hs'
      refine ⟨?_, by omega⟩
      simp only [un2_s, Option.bind_some, Option.map_some]
      exact s_gone_row o q hb (by omega)
  obtain ⟨f1, f2⟩ := fold
  rw [List.length_range, Nat.zero_add] at f2
  rw [f2] at f1
  have f1' : forF (fun l x => ((un2 some some) x).bind (L1__law_gone (bkD b e) l)) ((List.range n).map fun k => .tuple [.int (k : Nat), .int (a k)]) [] = some (.nx (rowD n (H a b e))) := f1
  simp only [g__law_gone, b__law_gone, B__law_gone, Option.bind_some, lenOk_s (show ([] : List D).length ≤ 100000 by decide), enum_rg]
  rw [f1']
  rfl
end DL

set_option Elab.async false
set_option linter.all false
set_option maxRecDepth 100000
set_option maxHeartbeats 2000000
set_option autoImplicit false
namespace DL
open PySem PySem.Spec PyProof.Rows L2 K61
theorem dInt_i (x : Int) : dInt [.int x] = some (.int x) := rfl
/-- a drawn row -/
structure Rw (many n : Nat) (a : Nat → Int) : Prop where
  n1 : 1 ≤ n
  n2 : n ≤ many
  up : ∀ i j, i ≤ j → j < n → a i ≤ a j
  lo : ∀ i, i < n → 0 ≤ a i
  hi : ∀ i, i < n → a i ≤ 40 * (i + 1)
theorem row_step {k : Nat} {ps : List D} {s : Int} (hp : Pot k ps) (hk : k < 2 ^ 50) (h1 : 1 ≤ s) (h2 : s ≤ 40) {many n : Nat} {a : Nat → Int} (r : Rw many n a) (hn : n < many) (hm : many ≤ 1000) (x : D) :
    ∃ ps' a', L1__law_row (.int s) (ps, rowD n a) x = some (.nx (ps', rowD (n + 1) a')) ∧ Pot (k + 1) ps' ∧ Rw many (n + 1) a' := by
  obtain ⟨d, ps', e, d0, d1, hp'⟩ := take_ok (u := s) hp (by omega) h1 (by omega)
  have hn1 := r.n1
  refine ⟨ps', fun i => if i < n then a i else a (n - 1) + d, ?_, hp', ⟨by omega, by omega, fun i j h hj => ?_, fun i hi => ?_, fun i hi => ?_⟩⟩
  · have last : dIx (.list (rowD n a)) (.int (-1)) = some (.int (a (n - 1))) := by
      rw [ix_last_l (by rw [rowD_len]; omega)]
      simp
    have row : rowD n a ++ [.int (a (n - 1) + d)] = rowD (n + 1) (fun i => if i < n then a i else a (n - 1) + d) := by
      rw [rowD_succ]
      have e1 : rowD n (fun i => if i < n then a i else a (n - 1) + d) = rowD n a := List.map_congr_left fun i hi => by
        simp [List.mem_range.mp hi]
      rw [e1]
      simp
    simp only [L1__law_row, bindX', binX, appX, consX, liftX, Option.bind_some, Option.map_some, dNeg_i, bin_s, last, e, dInt_i, dPlus_ii, appD_s (show (rowD n a).length < 100000 by rw [rowD_len]; omega), row]
  · show (if i < n then a i else _) ≤ (if j < n then a j else _)
    by_cases hjn : j < n
    · rw [if_pos hjn, if_pos (by omega)]
      exact r.up i j h hjn
    · rw [if_neg hjn]
      by_cases hin : i < n
      · rw [if_pos hin]
        have := r.up i (n - 1) (by omega) (by omega)
        omega
      · rw [if_neg hin]
        exact Int.le_refl _
  · show 0 ≤ (if i < n then a i else _)
    by_cases hin : i < n
    · rw [if_pos hin]
      exact r.lo i hin
    · rw [if_neg hin]
      have := r.lo (n - 1) (by omega)
      omega
  · show (if i < n then a i else _) ≤ _
    by_cases hin : i < n
    · rw [if_pos hin]
      exact r.hi i hin
    · rw [if_neg hin]
      have := r.hi (n - 1) (by omega)
      omega
theorem of4 {k : Nat} {ps : List D} (hp : Pot k ps) (hk : k < 2 ^ 50) (u : List Int) (h1 : 1 ≤ u.length) (h2 : u.length ≤ 1000) : ∃ x ∈ u, ∃ ps', g__law_of ps [.tuple (u.map .int)] = some (.int x, ps') ∧ Pot (k + 1) ps' := by
  obtain ⟨i, hi, ps', e, hp'⟩ := of_ok (xs := u.map .int) hp (by omega) (by rw [List.length_map]; exact h1) (by rw [List.length_map]; omega)
  rw [List.length_map] at hi
  exact ⟨u[i], List.getElem_mem hi, ps', by rw [e]; simp, hp'⟩
theorem row_ok {k : Nat} {ps : List D} (hp : Pot k ps) (hk : k < 2 ^ 40) {many : Nat} (h1 : 1 ≤ many) (h2 : many ≤ 100) : ∃ n a ps', g__law_row ps [.int (many : Nat)] = some (tR n a, ps') ∧ Rw many n a ∧ Pot (k + 200) ps' := by
  obtain ⟨d, p1, e1, d0, d1, hp1⟩ := take_ok (u := 40) hp (by omega) (by decide) (by decide)
  obtain ⟨s, hs, p2, e2, hp2⟩ := of4 (u := [1, 2, 5, 40]) hp1 (by omega) (by decide) (by decide)
  obtain ⟨m, p3, e3, m0, m1, hp3⟩ := take_ok (u := (many : Nat)) hp2 (by omega) (by omega) (by omega)
  obtain ⟨m, rfl⟩ := Int.eq_ofNat_of_zero_le m0
  have hs1 : 1 ≤ s ∧ s ≤ 40 := by
    simp only [List.mem_cons, List.not_mem_nil, or_false] at hs
    rcases hs with rfl | rfl | rfl | rfl <;> decide
  have l1 : ∀ x : D, lenOk (some [x]) = some [x] := fun _ => rfl
  have l4 : lenOk (some [PyData.int 1, .int 2, .int 5, .int 40]) = some ([1, 2, 5, 40].map PyData.int) := rfl
  have x1 : (lenOkX (consX (appX dInt (consX (fun ps => ((consX (liftX fun p => (some (.int 40))) (fun t => some ([], t))) ps).bind fun q => g__law_take q.2 q.1) (fun t => some ([], t)))) (fun t => some ([], t)))) ps = some ([.int d], p1) := by
    simp only [lenOkX, consX, appX, liftX, Option.bind_some, Option.map_some, e1, dInt_i]
    rfl
  obtain ⟨l', f1, f2⟩ := forF_rel (f := fun l x => (some x).bind (L1__law_row (.int s) l)) (fun i l => Pot (k + 3 + i) l.1 ∧ ∃ a, l.2 = rowD (i + 1) a ∧ Rw many (i + 1) a) ((List.range m).map fun i => .int (i : Nat)) (p3, [.int d]) 0
    ⟨hp3, fun _ => d, rfl, ⟨by omega, by omega, fun _ _ _ _ => Int.le_refl _, fun _ _ => d0, fun i hi => by omega⟩⟩
    fun i x l hi ⟨q1, a, q2, q3⟩ => by
      have him := (List.getElem?_eq_some_iff.mp hi).1
      rw [List.length_map, List.length_range] at him
      rw [Nat.zero_add] at q1 q2 q3 ⊢
      obtain ⟨lp, lf⟩ := l
      replace q2 : lf = rowD (i + 1) a := q2
      subst q2
      obtain ⟨ps', a', g1, g2, g3⟩ := row_step (k := k + 3 + i) q1 (by omega) hs1.1 hs1.2 q3 (by omega) (by omega) x
      exact ⟨(ps', rowD (i + 1 + 1) a'), by simp only [Option.bind_some]; exact g1, g2, a', rfl, g3⟩
  obtain ⟨g1, a, g2, g3⟩ := f2
  rw [List.length_map, List.length_range, Nat.zero_add] at g1 g2 g3
  obtain ⟨lp, lf⟩ := l'
  replace g2 : lf = rowD (m + 1) a := g2
  subst g2
  refine ⟨m + 1, a, lp, ?_, g3, g1.up (by omega)⟩
  have tw : two (lenOkX (consX (appX dInt (consX (fun ps => ((consX (liftX fun p => (some (.int 40))) (fun t => some ([], t))) ps).bind fun q => g__law_take q.2 q.1) (fun t => some ([], t)))) (fun t => some ([], t)))) (fun ps => ((consX (liftX fun p => ((lenOk (consO (some (.int 1)) (consO (some (.int 2)) (consO (some (.int 5)) (consO (some (.int 40)) (some [])))))).map .tuple)) (fun t => some ([], t))) ps).bind fun q => g__law_of q.2 q.1) ps = some (([.int d], .int s), p2) := by
    unfold two
    rw [x1]
    simp only [consX, liftX, consO_s, Option.bind_some, Option.map_some, l4, e2]
  have rg := range_0 (n := m) (by omega)
  unfold g__law_row
  simp only [b__law_row]
  unfold B__law_row
  rw [tw]
  simp only [Option.bind_some] at f1
  simp only [bindX, consX, liftX, Option.bind_some, Option.map_some, e3, rg, f1, seqLp_nx, consO_s]
  rfl
theorem bucket_ok {k : Nat} {ps : List D} (hp : Pot k ps) (hk : k < 2 ^ 40) : ∃ b e ps', g__law_bucket ps [] = some (bkD b e, ps') ∧ (1 ≤ b ∧ b ≤ 9) ∧ (1 ≤ e ∧ e ≤ 30) ∧ Pot (k + 4) ps' := by
  obtain ⟨s, hs, p1, e1, hp1⟩ := of4 (u := [2, 4, 9]) hp (by omega) (by decide) (by decide)
  have hs1 : 1 ≤ s ∧ s ≤ 9 := by
    simp only [List.mem_cons, List.not_mem_nil, or_false] at hs
    rcases hs with rfl | rfl | rfl <;> decide
  obtain ⟨d, p2, e2, d0, d1, hp2⟩ := take_ok (u := s) hp1 (by omega) (by omega) (by omega)
  obtain ⟨s', hs', p3, e3, hp3⟩ := of4 (u := [3, 12, 30]) hp2 (by omega) (by decide) (by decide)
  have hs2 : 1 ≤ s' ∧ s' ≤ 30 := by
    simp only [List.mem_cons, List.not_mem_nil, or_false] at hs'
    rcases hs' with rfl | rfl | rfl <;> decide
  obtain ⟨d', p4, e4, d0', d1', hp4⟩ := take_ok (u := s') hp3 (by omega) (by omega) (by omega)
  refine ⟨1 + d, 1 + d', p4, ?_, ⟨by omega, by omega⟩, ⟨by omega, by omega⟩, hp4⟩
  have l3 : lenOk (some [PyData.int 2, .int 4, .int 9]) = some ([2, 4, 9].map PyData.int) := rfl
  have l3' : lenOk (some [PyData.int 3, .int 12, .int 30]) = some ([3, 12, 30].map PyData.int) := rfl
  simp only [g__law_bucket, b__law_bucket, B__law_bucket, tupX, lenOkX, binX, appX, consX, liftX, consO_s, Option.bind_some, Option.map_some, l3, l3', e1, e2, e3, e4, dInt_i, dPlus_ii]
  rfl
end DL

set_option Elab.async false
set_option linter.all false
set_option maxRecDepth 100000
set_option maxHeartbeats 2000000
set_option autoImplicit false
namespace DL
open PySem PySem.Spec PyProof.Rows L2 K61
theorem rowD_congr {n : Nat} {f g : Nat → Int} (h : ∀ i, i < n → f i = g i) : rowD n f = rowD n g := List.map_congr_left fun i hi => by rw [h i (List.mem_range.mp hi)]
theorem rows_cat (n m : Nat) (a c : Nat → Int) : rowD n a ++ rowD m c = rowD (n + m) (cat n a c) := by
  apply List.ext_getElem?
  intro i
  by_cases h : i < n
  · rw [List.getElem?_append_left (by rw [rowD_len]; exact h), List.getElem?_map, List.getElem?_map, List.getElem?_range h, List.getElem?_range (by omega)]
    show some (PyData.int (a i)) = some (PyData.int (cat n a c i))
    rw [cat_l h]
  · rw [List.getElem?_append_right (by rw [rowD_len]; omega), rowD_len, List.getElem?_map, List.getElem?_map]
    by_cases h2 : i - n < m
    · rw [List.getElem?_range h2, List.getElem?_range (by omega)]
      show some (PyData.int (c (i - n))) = some (PyData.int (cat n a c i))
      unfold cat
      rw [if_neg h]
    · rw [List.getElem?_eq_none (by simp; omega), List.getElem?_eq_none (by simp; omega)]
      rfl
theorem plus_rows {n m : Nat} (h : n + m ≤ 100000) (a c : Nat → Int) : dPlus (tR n a) (tR m c) = some (tR (n + m) (cat n a c)) := by
  rw [dPlus_tt (by rw [rowD_len, rowD_len]; exact h), rows_cat]
theorem repr_row {n : Nat} {a : Nat → Int} (hn : n ≤ 1000) (h : ∀ i, i < n → (a i).natAbs < 10 ^ 18) : dRepr [tR n a] = some (.str (tR n a).shown) := by
  have := repr_tI (xs := (List.range n).map a) (fun x hx => by
    obtain ⟨i, hi, rfl⟩ := List.mem_map.mp hx
    exact h i (List.mem_range.mp hi)) (by rw [List.length_map, List.length_range]; omega)
  unfold tI at this
  rw [← rowD_eq] at this
  exact this
theorem Okr.small {n : Nat} {a : Nat → Int} (o : Okr n a) : ∀ i, i < n → (a i).natAbs < 10 ^ 18 := fun i hi => by
  have := o.lo i hi
  have := o.hi i hi
  omega
theorem Okr.repr {n : Nat} {a : Nat → Int} (o : Okr n a) : dRepr [tR n a] = some (.str (tR n a).shown) := repr_row (by have := o.len; omega) o.small
theorem Okr.take {n k : Nat} {a : Nat → Int} (o : Okr n a) (h : k ≤ n) : Okr k a := ⟨by have := o.len; omega, fun i hi => o.lo i (by omega), fun i hi => o.hi i (by omega), fun i j q hj => o.up i j q (by omega)⟩
theorem Okr.congr {n : Nat} {a c : Nat → Int} (o : Okr n a) (h : ∀ i, i < n → c i = a i) : Okr n c := ⟨o.len, fun i hi => by rw [h i hi]; exact o.lo i hi, fun i hi => by rw [h i hi]; exact o.hi i hi, fun i j q hj => by rw [h i (by omega), h j hj]; exact o.up i j q hj⟩
theorem dNe_self (s : Str) : dNe (.str s) (.str s) = some (.bool false) := by rw [dNe_ss]; simp
theorem dEq_self (s : Str) : dEq (.str s) (.str s) = some (.bool true) := by rw [dEq_ss]; simp
theorem dMax_row {n : Nat} (h : 1 ≤ n) (f : Nat → Int) : dMax [.list (((List.range n).map f).map .int)] = some (.int (maxUp f (n - 1))) := by
  obtain ⟨k, rfl⟩ : ∃ k, n = k + 1 := ⟨n - 1, by omega⟩
  rw [List.range_succ_eq_map, List.map_cons, dMax_l, Nat.add_sub_cancel]
  congr 2
  refine eq_of_le fun c => ?_
  rw [maxI_le, maxUp_le]
  simp only [List.map_map, List.mem_map, List.mem_range, forall_exists_index, and_imp]
  constructor
  · rintro ⟨h1, h2⟩ m hm
    cases m with
    | zero => exact h1
    | succ m => exact h2 _ m (by omega) rfl
  · intro h1
    refine ⟨h1 0 (by omega), ?_⟩
    rintro y m hm rfl
    exact h1 (m + 1) (by omega)
theorem Wt_up {n : Nat} {a : Nat → Int} {b e : Int} (hn : 1 ≤ n) (he : 0 ≤ e) : Wt n a b e = maxUp (fun i => H a b e i - a i) (n - 1) := eq_of_le fun c => by
  rw [Wt_le, maxUp_le]
  constructor
  · rintro ⟨h1, h2⟩ m hm
    exact h2 m (by omega)
  · intro h
    have h0 := h 0 (by omega)
    have := H_self (a := a) (b := b) he 0
    exact ⟨by omega, fun i hi => h i (by omega)⟩
theorem shaped_fits : SeqAt.shaped fitsD = true := by decide +kernel
theorem nice_fits : nice fitsD = true := by decide +kernel
theorem fits_eq : dEq fitsD fitsD = some (.bool true) := (if_pos (by rw [shaped_fits]; rfl)).trans (by rw [eqv_refl _ nice_fits])
theorem fits_ne : dNe fitsD fitsD = some (.bool false) := (if_pos (by rw [shaped_fits]; rfl)).trans (by rw [eqv_refl _ nice_fits]; rfl)
abbrev crowdD (f l : Int) : D := .tuple [.str "crowd", .int f, .int l]
theorem shaped_crowd (f l : Int) : SeqAt.shaped (crowdD f l) = true := by
  show (((PyData.strOk "crowd") && (true && (true && true))) && decide (max 0 (max 0 (max 0 0)) + 1 ≤ 64)) = true
  rw [show PyData.strOk "crowd" = true by decide +kernel]
  rfl
theorem crowd_eq (f l : Int) : dEq (crowdD f l) fitsD = some (.bool false) := (if_pos (by rw [shaped_crowd, shaped_fits]; rfl)).trans (by
  show some (PyData.bool (PyData.eqvAll _ _)) = _
  rw [PyData.eqvAll, eqv_ss]
  rfl)
theorem eq_crowd (f l : Int) : dEq fitsD (crowdD f l) = some (.bool false) := (if_pos (by rw [shaped_crowd, shaped_fits]; rfl)).trans (by
  show some (PyData.bool (PyData.eqvAll _ _)) = _
  rw [PyData.eqvAll, eqv_ss]
  rfl)
theorem crowd_ne (f l : Int) : dNe (crowdD f l) fitsD = some (.bool true) := (if_pos (by rw [shaped_crowd, shaped_fits]; rfl)).trans (by
  show some (PyData.bool (!PyData.eqvAll _ _)) = _
  rw [PyData.eqvAll, eqv_ss]
  rfl)
theorem crowd_crowd (f l f' l' : Int) : ∃ t, dEq (crowdD f l) (crowdD f' l') = some (.bool t) := ⟨_, if_pos (by rw [shaped_crowd, shaped_crowd]; rfl)⟩
/-- the one verdict and both -/
theorem verdicts {x y z : D} {p q r : Prop} [Decidable r] (hx : (p ∧ x = fitsD) ∨ (¬ p ∧ ∃ f l, x = crowdD f l)) (hy : (q ∧ y = fitsD) ∨ (¬ q ∧ ∃ f l, y = crowdD f l)) (hz : (r ∧ z = fitsD) ∨ (¬ r ∧ ∃ f l, z = crowdD f l)) (h : r ↔ p ∧ q) :
    bin dNe (bin dEq (some z) (some fitsD)) (chainO dEq dEq (some x) (some y) (some fitsD)) = some (.bool false) := by
  have left : bin dEq (some z) (some fitsD) = some (.bool (decide r)) := by
    rcases hz with ⟨h1, rfl⟩ | ⟨h1, f, l, rfl⟩
    · rw [decide_eq_true h1]
      exact fits_eq
    · rw [decide_eq_false h1]
      exact crowd_eq f l
  have right : chainO dEq dEq (some x) (some y) (some fitsD) = some (.bool (decide r)) := by
    unfold chainO
    simp only [Option.bind_some]
    rcases hx with ⟨h1, rfl⟩ | ⟨h1, f, l, rfl⟩
    · rcases hy with ⟨h2, rfl⟩ | ⟨h2, f, l, rfl⟩
      · rw [decide_eq_true (h.mpr ⟨h1, h2⟩), fits_eq]
        rfl
      · rw [decide_eq_false fun z => h2 (h.mp z).2, eq_crowd]
        rfl
    · rw [decide_eq_false fun z => h1 (h.mp z).1]
      rcases hy with ⟨h2, rfl⟩ | ⟨h2, f', l', rfl⟩
      · rw [crowd_eq]
        rfl
      · obtain ⟨t, e⟩ := crowd_crowd f l f' l'
        rw [e]
        cases t with
        | true =>
          show dEq (crowdD f' l') fitsD = _
          rw [crowd_eq]
        | false => rfl
  rw [left, right, bin_s, dNe_bb]
  simp
theorem lcF_two (me : D → Option D) (x y u w : D) (h1 : me x = some u) (h2 : me y = some w) : lcF some (fun _ => some true) me [x, y] = some [u, w] := by
  show ((me x).bind fun d => (((me y).bind fun d' => (some []).map (d' :: ·))).map (d :: ·)) = _
  rw [h1, h2]
  rfl
theorem Rw.ok {many n : Nat} {a : Nat → Int} (r : Rw many n a) (h : many ≤ 20) : Okr n a := ⟨by have := r.n2; omega, r.lo, fun i hi => by
  have := r.hi i hi
  have := r.n2
  omega, r.up⟩
theorem Okr.catR {n m : Nat} {a c : Nat → Int} (o : Okr n a) (p : Okr m c) (h : n + m ≤ 200) (hac : ∀ i, i < n → a i ≤ c 0) : Okr (n + m) (cat n a c) := by
  have r : ∀ i, i < n + m → ¬ i < n → cat n a c i = c (i - n) := fun i _ hn => if_neg hn
  refine ⟨h, fun i hi => ?_, fun i hi => ?_, fun i j q hj => ?_⟩
  · by_cases hn : i < n
    · rw [cat_l hn]; exact o.lo i hn
    · rw [r i hi hn]; exact p.lo _ (by omega)
  · by_cases hn : i < n
    · rw [cat_l hn]; exact o.hi i hn
    · rw [r i hi hn]; exact p.hi _ (by omega)
  · by_cases hn : j < n
    · rw [cat_l hn, cat_l (show i < n by omega)]; exact o.up i j q hn
    · rw [r j hj hn]
      by_cases hi : i < n
      · rw [cat_l hi]
        have := p.up 0 (j - n) (by omega) (by omega)
        have := hac i hi
        omega
      · rw [r i (by omega) hi]
        exact p.up _ _ (by omega) (by omega)
theorem Okr.shift {n : Nat} {a : Nat → Int} (o : Okr n a) {t A : Int} (ht : 0 ≤ t) (hA : ∀ i, i < n → a i ≤ A) (hs : A + t ≤ 1000000) : Okr n fun i => a i + t := ⟨o.len, fun i hi => by
  have := o.lo i hi
  show 0 ≤ a i + t
  omega, fun i hi => by
  have := hA i hi
  show a i + t ≤ _
  omega, fun i j q hj => by
  have := o.up i j q hj
  show a i + t ≤ a j + t
  omega⟩
end DL

set_option Elab.async false
set_option linter.all false
set_option maxRecDepth 100000
set_option maxHeartbeats 4000000
set_option autoImplicit false
namespace DL
open PySem PySem.Spec PyProof.Rows L2 K61
/-! ### two rows far apart -/
theorem fit_cat {n m : Nat} {a c : Nat → Int} {b e : Int} (hb : 1 ≤ b) (he : 0 ≤ e) (hn : 1 ≤ n) (hm : 1 ≤ m) (hc : H a b e (n - 1) + b * e ≤ c 0) : Fit (n + m) (cat n a c) b e ↔ Fit n a b e ∧ Fit m c b e := by
  constructor
  · intro h
    refine ⟨fun i k hi hk => ?_, fun i k hi hk => ?_⟩
    · have := h i k hi (by omega)
      rw [cat_l (show i < n by omega), cat_l hk] at this
      exact this
    · have := h (n + i) (n + k) (by omega) (by omega)
      rw [cat_r, cat_r, show n + k - (n + i) = k - i by omega] at this
      exact this
  · rintro ⟨h1, h2⟩
    refine fit_of_H hb he fun i hi => ?_
    by_cases hin : i < n
    · rw [H_cat_l hin, cat_l hin, H_fix he h1 hin]
    · obtain ⟨j, rfl⟩ : ∃ j, i = n + j := ⟨i - n, by omega⟩
      rw [H_cat_r hb he hn hc, cat_r, H_fix he h2 (by omega)]
theorem fit_shift {n : Nat} {a : Nat → Int} {b e t : Int} : Fit n (fun i => a i + t) b e ↔ Fit n a b e := by
  constructor
  · intro h i k hi hk
    have q : a i + t + phi b e (k - i) ≤ a k + t := h i k hi hk
    omega
  · intro h i k hi hk
    have q := h i k hi hk
    show a i + t + phi b e (k - i) ≤ a k + t
    omega
theorem Wt_shift {n : Nat} {a : Nat → Int} {b e t : Int} : Wt n (fun i => a i + t) b e = Wt n a b e := eq_of_le fun c => by
  rw [Wt_le, Wt_le]
  simp only [H_shift]
  constructor
  · rintro ⟨h1, h2⟩
    exact ⟨h1, fun i hi => by have := h2 i hi; omega⟩
  · rintro ⟨h1, h2⟩
    exact ⟨h1, fun i hi => by have := h2 i hi; omega⟩
theorem Wt_cat {n m : Nat} {a c : Nat → Int} {b e : Int} (hb : 1 ≤ b) (he : 0 ≤ e) (hn : 1 ≤ n) (hc : H a b e (n - 1) + b * e ≤ c 0) : Wt (n + m) (cat n a c) b e = max (Wt n a b e) (Wt m c b e) := eq_of_le fun x => by
  rw [Int.max_le, Wt_le, Wt_le, Wt_le]
  constructor
  · rintro ⟨h1, h2⟩
    refine ⟨⟨h1, fun i hi => ?_⟩, h1, fun i hi => ?_⟩
    · have := h2 i (by omega)
      rw [H_cat_l hi, cat_l hi] at this
      exact this
    · have := h2 (n + i) (by omega)
      rw [H_cat_r hb he hn hc, cat_r] at this
      exact this
  · rintro ⟨⟨h1, h2⟩, _, h3⟩
    refine ⟨h1, fun i hi => ?_⟩
    by_cases hin : i < n
    · rw [H_cat_l hin, cat_l hin]
      exact h2 i hin
    · obtain ⟨j, rfl⟩ : ∃ j, i = n + j := ⟨i - n, by omega⟩
      rw [H_cat_r hb he hn hc, cat_r]
      exact h3 j (by omega)
theorem LB_shift {n : Nat} {a : Nat → Int} {e t : Int} : LB n (fun i => a i + t) e = LB n a e := eq_of_le fun c => by
  rw [LB_le, LB_le]
  have q : ∀ k m, burstAt (fun i => a i + t) e k m = burstAt a e k m := fun k m => by
    unfold burstAt
    rw [show a k + t - (a m + t) = a k - a m by omega]
  simp only [q]
theorem LB_cat {n m : Nat} {a c : Nat → Int} {e : Int} (he : 1 ≤ e) (hn : 1 ≤ n) (hup : ∀ i, i < n → a i ≤ a (n - 1)) (hnm : n + m ≤ 30) (hc : ∀ i, i < m → a (n - 1) + 30 * e ≤ c i) : LB (n + m) (cat n a c) e = max (LB n a e) (LB m c e) := eq_of_le fun x => by
  rw [Int.max_le, LB_le, LB_le, LB_le]
  have ll : ∀ k i, i ≤ k → k < n → burstAt (cat n a c) e k i = burstAt a e k i := fun k i hi hk => by
    unfold burstAt
    rw [cat_l hk, cat_l (show i < n by omega)]
  have rr : ∀ k i, i ≤ k → burstAt (cat n a c) e (n + k) (n + i) = burstAt c e k i := fun k i hi => by
    unfold burstAt
    rw [cat_r, cat_r]
    have : ((n + k : Nat) : Int) - ((n + i : Nat) : Int) = (k : Int) - i := by omega
    rw [this]
  constructor
  · rintro ⟨h1, h2⟩
    refine ⟨⟨h1, fun k i hi hk => ?_⟩, h1, fun k i hi hk => ?_⟩
    · rw [← ll k i hi hk]
      exact h2 k i hi (by omega)
    · rw [← rr k i hi]
      exact h2 (n + k) (n + i) (by omega) (by omega)
  · rintro ⟨⟨h1, h2⟩, _, h3⟩
    refine ⟨h1, fun k i hi hk => ?_⟩
    by_cases hkn : k < n
    · rw [ll k i hi hkn]
      exact h2 k i hi hkn
    · obtain ⟨k', rfl⟩ : ∃ j, k = n + j := ⟨k - n, by omega⟩
      by_cases hin : i < n
      · unfold burstAt
        rw [cat_r, cat_l hin]
        have h4 := hc k' (by omega)
        have h5 := hup i hin
        have h6 : (30 : Int) ≤ (c k' - a i) / e := (Int.le_ediv_iff_mul_le (by omega : 0 < e)).mpr (by omega)
        omega
      · obtain ⟨i', rfl⟩ : ∃ j, i = n + j := ⟨i - n, by omega⟩
        rw [rr k' i' (by omega)]
        exact h3 k' i' (by omega) (by omega)
theorem ix_last_row {n : Nat} (h : 1 ≤ n) (a : Nat → Int) : dIx (tR n a) (.int (-1)) = some (.int (a (n - 1))) := by
  rw [ix_last_t (by rw [rowD_len]; omega)]
  simp
theorem two_right {k : Nat} {ps : List D} (hp : Pot k ps) (hk : k < 2 ^ 40) {n m : Nat} {a c : Nat → Int} {b e : Int} (ra : Rw 14 n a) (rc : Rw 14 m c) (hb : 1 ≤ b ∧ b ≤ 9) (he : 1 ≤ e ∧ e ≤ 30) :
    ∃ ps', g__law_are_two_right ps [tR n a, tR m c, bkD b e] = some (.bool true, ps') ∧ Pot (k + 1) ps' := by
  obtain ⟨d, p1, e1, d0, d1, hp1⟩ := take_ok (u := 500) hp (by omega) (by decide) (by decide)
  refine ⟨p1, ?_, hp1⟩
  have q : Okb b e := ⟨hb.1, by omega, he.1, by omega⟩
  have he0 : 0 ≤ e := by omega
  have oa := ra.ok (by decide)
  have oc := rc.ok (by decide)
  have n1 := ra.n1
  have n2 := ra.n2
  have m1 := rc.n1
  have m2 := rc.n2
  have ua : ∀ i, i < n → a i ≤ 560 := fun i hi => by have := ra.hi i hi; omega
  have uc : ∀ i, i < m → c i ≤ 560 := fun i hi => by have := rc.hi i hi; omega
  have sz : ∀ x : Nat, x ≤ 14 → (x : Int) * e ≤ 420 := fun x hx => by
    have h1 : (x : Int) * e ≤ 14 * e := Int.mul_le_mul_of_nonneg_right (by omega) he0
    omega
  have oHa : Okr n (H a b e) := oa.held q ua (by have := sz n n2; omega)
  have oHc : Okr m (H c b e) := oc.held q uc (by have := sz m m2; omega)
  have be1 : 0 ≤ b * e := Int.mul_nonneg (by omega) he0
  have be2 : b * e ≤ 270 := by
    have h1 : b * e ≤ 9 * e := Int.mul_le_mul_of_nonneg_right (by omega) he0
    omega
  have hH : H a b e (n - 1) ≤ 980 := by
    have h1 := H_up (a := a) (b := b) (e := e) q.b1 he0 (A := 560) (n := n - 1) fun j hj => ua j (by omega)
    have := sz (n - 1) (by omega)
    omega
  have hH0 : 0 ≤ H a b e (n - 1) := oHa.lo _ (by omega)
  -- so much later
  generalize hby : H a b e (n - 1) + b * e + d = by_
  have by0 : 0 ≤ by_ := by omega
  have by1 : by_ ≤ 1800 := by omega
  have of : Okr m fun i => c i + by_ := oc.shift by0 uc (by omega)
  have hc0 : H a b e (n - 1) + b * e ≤ (fun i => c i + by_) 0 := by
    have := oc.lo 0 (by omega)
    show _ ≤ c 0 + by_
    omega
  have aH : ∀ i, i < n → a i ≤ H a b e (n - 1) := fun i hi => by
    have h1 := oa.up i (n - 1) (by omega) (by omega)
    have h2 := H_self (a := a) (b := b) he0 (n - 1)
    omega
  have oall : Okr (n + m) (cat n a fun i => c i + by_) := oa.catR of (by omega) fun i hi => by
    have := aH i hi
    have h2 := oc.lo 0 (by omega)
    show _ ≤ c 0 + by_
    omega
  have hall : ∀ i, i < n + m → H (cat n a fun i => c i + by_) b e i = cat n (H a b e) (fun i => H c b e i + by_) i := fun i hi => by
    by_cases hin : i < n
    · rw [H_cat_l hin, cat_l hin]
    · obtain ⟨j, rfl⟩ : ∃ j, i = n + j := ⟨i - n, by omega⟩
      rw [H_cat_r q.b1 he0 n1 hc0, cat_r, H_shift]
  have oHall : Okr (n + m) (cat n (H a b e) fun i => H c b e i + by_) := oHa.catR (oHc.shift by0 (A := 980) (fun i hi => by
    have h1 := H_up (a := c) (b := b) (e := e) q.b1 he0 (A := 560) (n := i) fun j hj => uc j (by omega)
    have := sz i (by omega)
    omega) (by omega)) (by omega) fun i hi => by
    have h1 := H_mono (a := a) q.b1 he0 (show i ≤ n - 1 by omega)
    have h2 := oHc.lo 0 (by omega)
    show _ ≤ H c b e 0 + by_
    omega
  have back : g_held_back [tR (n + m) (cat n a fun i => c i + by_), bkD b e] = some (tR (n + m) (cat n (H a b e) fun i => H c b e i + by_)) := (s_back oall q).trans (congrArg (fun l => some (PyData.tuple l)) (rowD_congr hall))
  -- the wide row
  generalize hwd : a (n - 1) + 30 * e = wd
  have wd0 : 0 ≤ wd := by have := oa.lo (n - 1) (by omega); omega
  have wd1 : wd ≤ 1460 := by have := ua (n - 1) (by omega); omega
  have ow : Okr m fun i => c i + wd := oc.shift wd0 uc (by omega)
  have owall : Okr (n + m) (cat n a fun i => c i + wd) := oa.catR ow (by omega) fun i hi => by
    have h1 := oa.up i (n - 1) (by omega) (by omega)
    have h2 := oc.lo 0 (by omega)
    show _ ≤ c 0 + wd
    omega
  -- what the parts tell
  have i0 : dIx (bkD b e) (.int 0) = some (.int b) := rfl
  have i1 : dIx (bkD b e) (.int 1) = some (.int e) := rfl
  have be : dMul (.int b) (.int e) = some (.int (b * e)) := mul_small (by omega) (by omega) (by omega) (by omega)
  have t30 : dMul (.int 30) (.int e) = some (.int (30 * e)) := mul_small (by omega) (by omega) (by omega) (by omega)
  have dif := diffs n a (H a b e)
  have difm : lcF (un2 some some) (fun p3 : D × D => some true) (fun p3 : D × D => dSub p3.1 p3.2) ((List.range n).map fun i => .tuple [.int (H a b e i), .int (a i)]) = some (((List.range n).map fun i => H a b e i - a i).map .int) := by
    rw [lcF_all (pm := un2 some some) (fun i => .tuple [.int (H a b e i), .int (a i)]) (fun i => .int (H a b e i - a i)) (List.range n) fun i _ => ⟨(.int (H a b e i), .int (a i)), rfl, rfl⟩, List.map_map]
    rfl
  have wt1 := s_wait oa q
  rw [Wt_up n1 he0] at wt1
  have W1 := s_wait oa q
  have W2 := s_wait oc q
  have W3 := s_wait oall q
  rw [Wt_cat q.b1 he0 n1 hc0, Wt_shift] at W3
  have W4 := s_wait of q
  rw [Wt_shift] at W4
  have B1 := s_burst oa q.e1 q.e2
  have B2 := s_burst oc q.e1 q.e2
  have B3 := s_burst owall q.e1 q.e2
  rw [LB_cat q.e1 n1 (fun i hi => oa.up i (n - 1) (by omega) (by omega)) (by omega) (fun i hi => by have := oc.lo i hi; show _ ≤ c i + wd; omega), LB_shift] at B3
  have B4 := s_burst of q.e1 q.e2
  rw [LB_shift] at B4
  have mxl : ∀ x y : Int, dMax [.list [.int x, .int y]] = some (.int (max x y)) := fun x y => dMax_l x [y]
  have ix1 : ∀ x y : Int, dIx (.list [.int x, .int y]) (.int 1) = some (.int y) := fun _ _ => rfl
  have l2 : ∀ x y : D, lenOk (some [x, y]) = some [x, y] := fun _ _ => rfl
  have ld : lenOk (some (((List.range n).map fun i => H a b e i - a i).map PyData.int)) = some (((List.range n).map fun i => H a b e i - a i).map PyData.int) := lenOk_s (by simp; omega)
  have lf : lenOk (some [PyData.str "fits"]) = some [.str "fits"] := rfl
  have waits : lcF some (fun p10 : D => some true) (fun p10 : D => g_longest_wait [p10, bkD b e]) [tR n a, tR m c] = some [.int (Wt n a b e), .int (Wt m c b e)] := lcF_two _ _ _ _ _ W1 W2
  have bursts : lcF some (fun p13 : D => some true) (fun p13 : D => g_least_burst [p13, .int e]) [tR n a, tR m c] = some [.int (LB n a e), .int (LB m c e)] := lcF_two _ _ _ _ _ B1 B2
  -- verdicts
  classical
  have vf : ∀ {n : Nat} {a : Nat → Int} (o : Okr n a), ∃ x, g_fits [tR n a, bkD b e] = some x ∧ ((Fit n a b e ∧ x = fitsD) ∨ (¬ Fit n a b e ∧ ∃ f l, x = crowdD f l)) := fun o => by
    rcases s_fits o q with ⟨h1, h2⟩ | ⟨h1, f, l, h2⟩
    · exact ⟨_, h2, .inl ⟨h1, rfl⟩⟩
    · exact ⟨_, h2, .inr ⟨h1, f, l, rfl⟩⟩
  obtain ⟨x, fx, hx⟩ := vf oa
  obtain ⟨y, fy, hy⟩ := vf oc
  obtain ⟨z, fz, hz⟩ := vf oall
  have vd := verdicts hx hy hz ((fit_cat q.b1 he0 n1 m1 hc0).trans (and_congr_right fun _ => fit_shift))
  have catl := plus_rows (show n + m ≤ 100000 by omega) a fun i => c i + by_
  have catH := plus_rows (show n + m ≤ 100000 by omega) (H a b e) fun i => H c b e i + by_
  have catw := plus_rows (show n + m ≤ 100000 by omega) a fun i => c i + wd
  unfold g__law_are_two_right
  simp only [b__law_are_two_right]
  unfold B__law_are_two_right
  simp only [consO_s, Option.bind_some, s_gone oa q (by omega), s_back oa q, s_back oc q, oHa.repr, bin_s, dNe_self, isB_s, orT_f, zip_rows, difm, ld, Option.map_some, dMax_row n1, wt1, dNe_ii, decide_true, Bool.not_true, iteO_f, dNeg_i, ix_last_row n1, binX, liftX, appX, consX, e1, i0, i1, be, dPlus_ii, dInt_i, hby, s_later (show m ≤ 100000 by omega), catl, back, catH, oHall.repr, fx, fy, fz, lf, l2, iterD_t, waits, W3, mxl, W4, ix1, bursts, t30, hwd, catw, B3, B4, dEq_ii, andV_t]
  rw [bin_s] at vd
  rw [vd]
  rfl
/-! ### a row cut, thinned, later; buckets behind one another -/
abbrev bksD (bs : List (Int × Int)) : D := .tuple (bs.map fun p => bkD p.1 p.2)
theorem thru_congr {bs : List (Int × Int)} : ∀ {a a' : Nat → Int} {n : Nat}, (∀ i, i ≤ n → a i = a' i) → thru a bs n = thru a' bs n := by
  induction bs with
  | nil => exact fun h => h _ (Nat.le_refl _)
  | cons p r ih => exact fun h => ih fun i hi => H_congr fun j hj => h j (by omega)
theorem thru_append (a : Nat → Int) (bs cs : List (Int × Int)) : thru a (bs ++ cs) = thru (thru a bs) cs := by
  induction bs generalizing a with
  | nil => rfl
  | cons p r ih => exact ih _
/-- small buckets -/
def Sm (bs : List (Int × Int)) : Prop := ∀ p ∈ bs, (1 ≤ p.1 ∧ p.1 ≤ 20) ∧ 1 ≤ p.2 ∧ p.2 ≤ 30
theorem Sm.okb {bs : List (Int × Int)} (h : Sm bs) : ∀ p ∈ bs, Okb p.1 p.2 := fun p hp => by
  have q := h p hp
  exact ⟨q.1.1, by omega, q.2.1, by omega⟩
theorem okT_of {n : Nat} (hn : n ≤ 14) : ∀ (bs : List (Int × Int)) {a : Nat → Int} {A : Int}, Sm bs → Okr n a → (∀ i, i < n → a i ≤ A) → A + 420 * bs.length ≤ 1000000 → OkT n a bs ∧ (∀ i, i < n → thru a bs i ≤ A + 420 * bs.length) ∧ Okr n (thru a bs)
  | [], a, A, _, o, hA, _ => ⟨trivial, fun i hi => by have := hA i hi; simpa [thru] using this, o⟩
  | p :: r, a, A, h, o, hA, hs => by
    have q := h p List.mem_cons_self
    have k := Sm.okb h p List.mem_cons_self
    have he : 0 ≤ p.2 := by omega
    rw [List.length_cons] at hs ⊢
    have sz : ∀ x : Nat, x ≤ 14 → (x : Int) * p.2 ≤ 420 := fun x hx => by
      have h1 : (x : Int) * p.2 ≤ 14 * p.2 := Int.mul_le_mul_of_nonneg_right (by omega) he
      omega
    have hH : ∀ i, i < n → H a p.1 p.2 i ≤ A + 420 := fun i hi => by
      have h1 := H_up (a := a) (b := p.1) (e := p.2) k.b1 he (A := A) (n := i) fun j hj => hA j (by omega)
      have := sz i (by omega)
      omega
    have o2 := o.held k hA (by have := sz n hn; omega)
    obtain ⟨t1, t2, t3⟩ := okT_of hn r (a := H a p.1 p.2) (A := A + 420) (fun x hx => h x (List.mem_cons_of_mem _ hx)) o2 hH (by omega)
    exact ⟨⟨k, o2, t1⟩, fun i hi => by have := t2 i hi; show thru (H a p.1 p.2) r i ≤ _; omega, t3⟩
theorem run_thru {n : Nat} {a : Nat → Int} {bs : List (Int × Int)} {A : Int} (hn : n ≤ 14) (h : Sm bs) (o : Okr n a) (hA : ∀ i, i < n → a i ≤ A) (hs : A ≤ 900000) (h1 : bs ≠ []) (h2 : bs.length ≤ 6) : g_through_all [tR n a, bksD bs] = some (tR n (thru a bs)) :=
  s_thru o h1 h2 (okT_of hn bs h o hA (by omega)).1 h.okb
theorem fit_thru {N : Nat} {b e : Int} : ∀ (bs : List (Int × Int)) {a : Nat → Int}, Fit N a b e → Fit N (thru a bs) b e
  | [], _, h => h
  | p :: r, _, h => fit_thru r (fit_H2 h)
theorem fit_told {N : Nat} : ∀ (bs : List (Int × Int)) (a : Nat → Int), Sm bs → ∀ p ∈ bs, Fit N (thru a bs) p.1 p.2
  | p :: r, a, h, p', hp' => by
    rcases List.mem_cons.mp hp' with rfl | hp'
    · have q := h p' List.mem_cons_self
      exact fit_thru r (fit_H (by omega) (by omega) N)
    · exact fit_told r _ (fun x hx => h x (List.mem_cons_of_mem _ hx)) p' hp'
theorem thru_fix {N n : Nat} (hn : n < N) : ∀ (bs : List (Int × Int)) {a : Nat → Int}, Sm bs → (∀ p ∈ bs, Fit N a p.1 p.2) → thru a bs n = a n
  | [], _, _, _ => rfl
  | p :: r, a, h, hf => by
    have q := h p List.mem_cons_self
    have e : ∀ i, i < N → H a p.1 p.2 i = a i := fun i hi => H_fix (by omega) (hf p List.mem_cons_self) hi
    show thru (H a p.1 p.2) r n = a n
    rw [thru_congr (a' := a) fun i hi => e i (by omega)]
    exact thru_fix hn r (fun x hx => h x (List.mem_cons_of_mem _ hx)) fun x hx => hf x (List.mem_cons_of_mem _ hx)
theorem thru_shift (c : Int) (n : Nat) : ∀ (bs : List (Int × Int)) (a : Nat → Int), thru (fun i => a i + c) bs n = thru a bs n + c
  | [], _ => rfl
  | p :: r, a => by
    show thru (H (fun i => a i + c) p.1 p.2) r n = thru (H a p.1 p.2) r n + c
    rw [show H (fun i => a i + c) p.1 p.2 = fun i => H a p.1 p.2 i + c from funext fun i => H_shift c i]
    exact thru_shift c n r _
theorem thru_sub {s : Nat → Nat} {N n : Nat} (hs : ∀ i j, i < j → j < N → s i < s j) (hn : n < N) : ∀ (bs : List (Int × Int)) {a a' : Nat → Int}, Sm bs → (∀ i, i < N → a' i ≤ a (s i)) → thru a' bs n ≤ thru a bs (s n)
  | [], _, _, _, h => h n hn
  | p :: r, a, a', h, ha => by
    have q := h p List.mem_cons_self
    exact thru_sub hs hn r (fun x hx => h x (List.mem_cons_of_mem _ hx)) fun i hi => H_sub (by omega) (by omega) hs hi ha
theorem LB_sub {s : Nat → Nat} {N M : Nat} {a : Nat → Int} {e : Int} (he : 1 ≤ e) (hs : ∀ i j, i < j → j < N → s i < s j) (hM : ∀ i, i < N → s i < M) : LB N (fun i => a (s i)) e ≤ LB M a e := LB_le.mpr ⟨(LB_le.mp (Int.le_refl (LB M a e))).1, fun k i hi hk => by
  obtain ⟨h1, h2⟩ := sub_far hs hi hk
  have h3 := (LB_le.mp (Int.le_refl (LB M a e))).2 (s k) (s i) h2 (hM k hk)
  unfold burstAt at h3 ⊢
  show (k : Int) - i + 1 - (a (s k) - a (s i)) / e ≤ _
  omega⟩
end DL

set_option Elab.async false
set_option linter.all false
set_option maxRecDepth 100000
set_option maxHeartbeats 4000000
set_option autoImplicit false
namespace DL
open PySem PySem.Spec PyProof.Rows L2 K61
theorem idx_map {α : Type} (idx : List Nat) (f : Nat → α) : idx.map f = (List.range idx.length).map fun k => f (idx.getD k 0) := by
  apply List.ext_getElem?
  intro i
  rw [List.getElem?_map, List.getElem?_map]
  by_cases h : i < idx.length
  · rw [List.getElem?_range h, List.getElem?_eq_getElem h]
    simp [List.getD_eq_getElem?_getD, h]
  · rw [List.getElem?_eq_none (by omega), List.getElem?_eq_none (by simp; omega)]
    rfl
theorem idx_up (n : Nat) (mk : Nat → Bool) : (∀ i j, i < j → j < ((List.range n).filter mk).length → ((List.range n).filter mk).getD i 0 < ((List.range n).filter mk).getD j 0) ∧ (∀ i, i < ((List.range n).filter mk).length → ((List.range n).filter mk).getD i 0 < n) ∧ ((List.range n).filter mk).length ≤ n := by
  have hp : ((List.range n).filter mk).Pairwise (· < ·) := List.pairwise_lt_range.filter _
  refine ⟨fun i j hij hj => ?_, fun i hi => ?_, ?_⟩
  · rw [List.getD_eq_getElem?_getD, List.getD_eq_getElem?_getD, List.getElem?_eq_getElem (by omega), List.getElem?_eq_getElem hj]
    exact List.pairwise_iff_getElem.mp hp i j (by omega) hj hij
  · rw [List.getD_eq_getElem?_getD, List.getElem?_eq_getElem hi]
    exact List.mem_range.mp (List.mem_filter.mp (List.getElem_mem hi)).1
  · have := List.length_filter_le mk (List.range n)
    rw [List.length_range] at this
    exact this
theorem bools_rg {ds : List D} {n : Nat} (hl : ds.length = n) (h : ∀ d ∈ ds, ∃ t, d = .bool t) : ∃ mk : Nat → Bool, ds = (List.range n).map fun i => .bool (mk i) := by
  refine ⟨fun i => ((ds[i]?).bind isB).getD false, ?_⟩
  apply List.ext_getElem?
  intro i
  rw [List.getElem?_map]
  by_cases hi : i < n
  · rw [List.getElem?_range hi]
    obtain ⟨t, e⟩ := h ds[i] (List.getElem_mem (by omega))
    rw [List.getElem?_eq_getElem (by omega : i < ds.length), e]
    show some (PyData.bool t) = some (PyData.bool (((ds[i]?).bind isB).getD false))
    rw [List.getElem?_eq_getElem (by omega : i < ds.length), e]
    rfl
  · rw [List.getElem?_eq_none (by omega), List.getElem?_eq_none (by simp; omega)]
    rfl
theorem pick (n : Nat) (a : Nat → Int) (mk : Nat → Bool) : lcF (un2 some some) (fun p : D × D => isB p.2) (fun p : D × D => some p.1) ((List.range n).map fun i => .tuple [.int (a i), .bool (mk i)]) = some (rowD ((List.range n).filter mk).length fun k => a (((List.range n).filter mk).getD k 0)) := by
  rw [lcF_map (pm := un2 some some) (fun i => .tuple [.int (a i), .bool (mk i)]) mk (fun i => .int (a i)) (List.range n) fun i _ => ⟨(.int (a i), .bool (mk i)), rfl, rfl, fun _ => rfl⟩, idx_map]
theorem Okr.sub {n N : Nat} {a : Nat → Int} (o : Okr n a) {s : Nat → Nat} (hN : N ≤ n) (hs : ∀ i j, i < j → j < N → s i < s j) (hM : ∀ i, i < N → s i < n) : Okr N fun k => a (s k) := ⟨by have := o.len; omega, fun i hi => o.lo _ (hM i hi), fun i hi => o.hi _ (hM i hi), fun i j q hj => o.up _ _ (sub_far hs q hj).2 (hM j hj)⟩
theorem loop_all {α L R : Type} {f : L → D → Option (Fl L L R)} {l : L} (enc : α → D) : ∀ xs : List α, (∀ x ∈ xs, f l (enc x) = some (.nx l)) → forF f (xs.map enc) l = some (.nx l)
  | [], _ => rfl
  | x :: r, h => by
    rw [List.map_cons, forF_cons, h x List.mem_cons_self]
    exact loop_all enc r fun y hy => h y (List.mem_cons_of_mem _ hy)
theorem fits_of {n : Nat} {a : Nat → Int} {b e : Int} (o : Okr n a) (q : Okb b e) (h : Fit n a b e) : g_fits [tR n a, bkD b e] = some fitsD := by
  rcases s_fits o q with ⟨_, h2⟩ | ⟨h1, _⟩
  · exact h2
  · exact absurd h h1
theorem cut_loop {n N : Nat} {a t : Nat → Int} {b e : Int} {pot : List D} (o : Okr n a) (ot : Okr n t) (q : Okb b e) {s : Nat → Nat} (hN : N ≤ n) (hs : ∀ i j, i < j → j < N → s i < s j) (hM : ∀ i, i < N → s i < n) (ht : Fit n t b e) :
    L1__law_is_cut_right pot (tR n a) (tR n t) (tR N fun k => a (s k)) () (bkD b e) = some (.nx ()) := by
  have os := o.sub hN hs hM
  have he : 0 ≤ e := by have := q.e1; omega
  have i1 : dIx (bkD b e) (.int 1) = some (.int e) := rfl
  have lf : lenOk (some [PyData.str "fits"]) = some [.str "fits"] := rfl
  have f3 := fits_of ot q ht
  have lb := LB_sub (a := a) q.e1 hs hM
  have hg : ¬ LB n a e < LB N (fun k => a (s k)) e := by omega
  unfold L1__law_is_cut_right
  simp only [consO_s, Option.bind_some, f3, lf, Option.map_some, bin_s, fits_ne, isB_s, i1, s_burst o q.e1 q.e2, s_burst os q.e1 q.e2, dGt_ii, decide_eq_false hg, andT_f, iteO_f]
  by_cases hf : Fit n a b e
  · rw [fits_of o q hf, fits_of os q (fit_sub he hs hM hf)]
    simp only [Option.bind_some, bin_s, fits_eq, fits_ne, isB_s]
    rfl
  · rcases s_fits o q with ⟨h1, _⟩ | ⟨_, f, l, h2⟩
    · exact absurd h1 hf
    · rw [h2]
      simp only [Option.bind_some, bin_s, crowd_eq, isB_s]
      rfl
theorem plus_bks (bs cs : List (Int × Int)) (h : bs.length + cs.length ≤ 1000) : dPlus (bksD bs) (bksD cs) = some (bksD (bs ++ cs)) := by
  rw [dPlus_tt (by rw [List.length_map, List.length_map]; omega), ← List.map_append]
theorem zip_marks (n : Nat) (a : Nat → Int) (mk : Nat → Bool) : dZip2 [tR n a, .list ((List.range n).map fun i => .bool (mk i))] = some ((List.range n).map fun i => .tuple [.int (a i), .bool (mk i)]) := by
  show some (zip2L (rowD n a) ((List.range n).map fun i => .bool (mk i))) = _
  rw [zip_rg, Nat.min_self]
theorem zip_rowl (n : Nat) (a c : Nat → Int) : dZip2 [tR n a, .list (rowD n c)] = some ((List.range n).map fun i => .tuple [.int (a i), .int (c i)]) := zip_rows n a c
theorem cut_right {k : Nat} {ps : List D} (hp : Pot k ps) (hk : k < 2 ^ 40) {n : Nat} {a : Nat → Int} (ra : Rw 14 n a) {b0 e0 : Int} {r : List (Int × Int)} (hr : r.length ≤ 2) (hb : ∀ p ∈ (b0, e0) :: r, (1 ≤ p.1 ∧ p.1 ≤ 9) ∧ 1 ≤ p.2 ∧ p.2 ≤ 30) :
    ∃ ps', g__law_is_cut_right ps [tR n a, bksD ((b0, e0) :: r)] = some (.bool true, ps') ∧ Pot (k + 100) ps' := by
  have oa := ra.ok (by decide)
  have n1 := ra.n1
  have n2 := ra.n2
  have ua : ∀ i, i < n → a i ≤ 560 := fun i hi => by have := ra.hi i hi; omega
  generalize hbs : (b0, e0) :: r = bs at hb
  have hne : bs ≠ [] := by rw [← hbs]; exact List.cons_ne_nil _ _
  have hlen : bs.length ≤ 3 := by rw [← hbs, List.length_cons]; omega
  have sm : Sm bs := fun p hp => by have := hb p hp; exact ⟨⟨this.1.1, by omega⟩, this.2⟩
  have q0 := hb (b0, e0) (by rw [← hbs]; exact List.mem_cons_self)
  replace q0 : (1 ≤ b0 ∧ b0 ≤ 9) ∧ 1 ≤ e0 ∧ e0 ≤ 30 := q0
  obtain ⟨_, ut, ot⟩ := okT_of n2 bs sm oa ua (by omega)
  have told := run_thru n2 sm oa ua (by omega) hne (by omega)
  have again : g_through_all [tR n (thru a bs), bksD bs] = some (tR n (thru a bs)) :=
    (run_thru n2 sm ot ut (by omega) hne (by omega)).trans (congrArg (fun l => some (PyData.tuple l)) (rowD_congr fun i hi => thru_fix hi bs sm (fit_told bs a sm)))
  -- the cut
  obtain ⟨c, p1, e1, c0, c1, hp1⟩ := take_ok (u := (n : Nat) + 1) hp (by omega) (by omega) (by omega)
  obtain ⟨c, rfl⟩ := Int.eq_ofNat_of_zero_le c0
  have hc : c ≤ n := by omega
  have cutd : ∀ f : Nat → Int, slO dSl (some (tR n f)) (some none) (some (some ((c : Nat) : Int))) = some (tR c f) := fun f => by
    rw [sl_to]
    congr 2
    rw [← List.map_take, List.take_range, Nat.min_eq_left hc]
  have toldc := run_thru (n := c) (by omega) sm (oa.take hc) (fun i hi => ua i (by omega)) (by omega) hne (by omega)
  -- the marks
  obtain ⟨ds, p2, m1, m2, m3, m4⟩ := lcX_rel (pm := (some : D → Option D)) (mt := fun _ : D => (liftX fun _ : List D => some true)) (me := fun _ : D => (binX dGt (fun ps => ((consX (liftX fun p => (some (.int 3))) (fun t => some ([], t))) ps).bind fun q => g__law_take q.2 q.1) (liftX fun p => (some (.int 0))))) (fun i t => Pot (k + 1 + i) t) (fun d => ∃ t, d = .bool t) (rowD n a) p1 0 hp1 fun i x t hi ht => by
    have hin := (List.getElem?_eq_some_iff.mp hi).1
    rw [rowD_len] at hin
    rw [Nat.zero_add] at ht
    obtain ⟨d, p, e, d0, d1, hp⟩ := take_ok (u := 3) ht (by omega) (by decide) (by decide)
    refine ⟨x, rfl, rfl, _, p, ?_, ⟨decide (0 < d), rfl⟩, hp.up (by omega)⟩
    simp only [binX, consX, liftX, Option.bind_some, Option.map_some, e, dGt_ii]
  rw [rowD_len, Nat.zero_add] at m4
  rw [rowD_len] at m2
  obtain ⟨mk, rfl⟩ := bools_rg m2 m3
  obtain ⟨s1, s2, s3⟩ := idx_up n mk
  have pk := fun f => pick n f mk
  generalize hN : ((List.range n).filter mk).length = N at s1 s2 s3 pk
  generalize hs : (fun i => ((List.range n).filter mk).getD i 0) = s at s1 s2 pk
  have s1' : ∀ i j, i < j → j < N → s i < s j := by rw [← hs]; exact s1
  have s2' : ∀ i, i < N → s i < n := by rw [← hs]; exact s2
  have pk' : ∀ f : Nat → Int, lcF (un2 some some) (fun p : D × D => isB p.2) (fun p : D × D => some p.1) ((List.range n).map fun i => .tuple [.int (f i), .bool (mk i)]) = some (rowD N fun k => f (s k)) := fun f => by rw [← hs]; exact pk f
  have os := oa.sub s3 s1' s2'
  have tolds := run_thru (n := N) (by omega) sm os (fun i hi => ua _ (s2' i hi)) (by omega) hne (by omega)
  have le_late : (List.range N).all (fun i => decide (thru (fun k => a (s k)) bs i ≤ thru a bs (s i))) = true := by
    rw [List.all_eq_true]
    intro i hi
    exact decide_eq_true (thru_sub s1' (List.mem_range.mp hi) bs sm fun j _ => Int.le_refl _)
  have cmp : lcF (un2 some some) (fun p11 : D × D => some true) (fun p11 : D × D => dLe p11.1 p11.2) ((List.range N).map fun i => .tuple [.int (thru (fun k => a (s k)) bs i), .int (thru a bs (s i))]) = some ((List.range N).map fun i => .bool (decide (thru (fun k => a (s k)) bs i ≤ thru a bs (s i)))) :=
    lcF_all (pm := un2 some some) (fun i => .tuple [.int (thru (fun k => a (s k)) bs i), .int (thru a bs (s i))]) _ _ fun i _ => ⟨(.int _, .int _), rfl, dLe_ii _ _⟩
  have loop : forF (L := Unit) (R := D × List D) (fun l x => L1__law_is_cut_right p2 (tR n a) (tR n (thru a bs)) (tR N fun k => a (s k)) l x) (bs.map fun p => bkD p.1 p.2) () = some (.nx ()) := loop_all (fun p : Int × Int => bkD p.1 p.2) bs fun p hp => cut_loop oa ot (sm.okb p hp) s3 s1' s2' (fit_told bs a sm p hp)
  -- the loose bucket
  obtain ⟨x, p3, e3, x0, x1, hp3⟩ := take_ok (u := 3) m4 (by omega) (by decide) (by decide)
  obtain ⟨y, p4, e4, y0, y1, hp4⟩ := take_ok (u := 3) hp3 (by omega) (by decide) (by decide)
  generalize hb' : b0 + x = b'
  generalize he' : max 1 (e0 - y) = e'
  have sl : Sm [(b', e')] := fun p hp => by
    rw [List.mem_singleton.mp hp]
    exact ⟨⟨by omega, by omega⟩, by omega, by omega⟩
  have sma : Sm (bs ++ [(b', e')]) := fun p hp => by
    rcases List.mem_append.mp hp with h | h
    · exact sm p h
    · exact sl p h
  have smb : Sm ((b', e') :: bs) := fun p hp => by
    rcases List.mem_cons.mp hp with rfl | h
    · exact sl _ List.mem_cons_self
    · exact sm p h
  have behind : g_through_all [tR n a, bksD (bs ++ [(b', e')])] = some (tR n (thru a bs)) :=
    (run_thru n2 sma oa ua (by omega) (by simp) (by rw [List.length_append]; simp; omega)).trans (congrArg (fun l => some (PyData.tuple l)) (rowD_congr fun i hi => by
      rw [thru_append]
      refine thru_fix hi [(b', e')] sl fun p hp => ?_
      rw [List.mem_singleton.mp hp]
      have := fit_told (N := n) bs a sm (b0, e0) (by rw [← hbs]; exact List.mem_cons_self)
      exact fit_loose (by omega) (by omega) (by omega) (by omega) this))
  have ahead : g_through_all [tR n a, bksD ((b', e') :: bs)] = some (tR n (thru a bs)) :=
    (run_thru n2 smb oa ua (by omega) (by simp) (by rw [List.length_cons]; omega)).trans (congrArg (fun l => some (PyData.tuple l)) (rowD_congr fun i hi => by
      rw [← hbs]
      show thru (H (H a b' e') b0 e0) r i = thru (H a b0 e0) r i
      rw [show H (H a b' e') b0 e0 = H a b0 e0 from funext fun j => H_ahead (by omega) (by omega) (by omega) (by omega) (by omega) j]))
  have pb := plus_bks bs [(b', e')] (by simp; omega)
  have pa := plus_bks [(b', e')] bs (by simp; omega)
  -- all later
  obtain ⟨z, p5, e5, z0, z1, hp5⟩ := take_ok (u := 9000) hp4 (by omega) (by decide) (by decide)
  have oz : Okr n fun i => a i + z := oa.shift z0 ua (by omega)
  have later : g_through_all [tR n fun i => a i + z, bksD bs] = some (tR n fun i => thru a bs i + z) :=
    (run_thru n2 sm oz (A := 9560) (fun i hi => by have := ua i hi; show a i + z ≤ _; omega) (by omega) hne (by omega)).trans (congrArg (fun l => some (PyData.tuple l)) (rowD_congr fun i _ => thru_shift z i bs a))
  have otz : Okr n fun i => thru a bs i + z := ot.shift z0 ut (by omega)
  refine ⟨p5, ?_, hp5.up (by omega)⟩
  have first : dIx (bksD bs) (.int 0) = some (bkD b0 e0) := by
    rw [← hbs]
    show dIx (bksD ((b0, e0) :: r)) (.int ((0 : Nat) : Int)) = _
    rw [ix_t (by simp)]
    rfl
  have l1 : ∀ x : D, lenOk (some [x]) = some [x] := fun _ => rfl
  have l2 : ∀ x y : D, lenOkX (fun t : List D => some ([x, y], t)) = fun t => some ([x, y], t) := fun _ _ => rfl
  have lm : lenOkX (fun t : List D => some (((List.range n).map fun i => PyData.bool (mk i)), t)) = fun t => some (((List.range n).map fun i => PyData.bool (mk i)), t) := by
    funext t
    exact if_pos (by simp; omega)
  have lN : ∀ f : Nat → Int, lenOk (some (rowD N f)) = some (rowD N f) := fun f => lenOk_s (by rw [rowD_len]; omega)
  have lA : lenOk (some ((List.range N).map fun i => PyData.bool (decide (thru (fun k => a (s k)) bs i ≤ thru a bs (s i))))) = some ((List.range N).map fun i => PyData.bool (decide (thru (fun k => a (s k)) bs i ≤ thru a bs (s i)))) := lenOk_s (by simp; omega)
  have tup : ∀ xs : List D, dTuple [.list xs] = some (.tuple xs) := fun _ => rfl
  have marks : lenOkX (fun t => ((liftX fun p : List D => iterD (tR n a)) t).bind fun q => lcX (some : D → Option D) (fun _ : D => (liftX fun _ : List D => some true)) (fun _ : D => (binX dGt (fun ps => ((consX (liftX fun p => (some (.int 3))) (fun t => some ([], t))) ps).bind fun q => g__law_take q.2 q.1) (liftX fun p => (some (.int 0))))) q.1 q.2) p1 = some (((List.range n).map fun i => PyData.bool (mk i)), p2) := by
    unfold lenOkX
    show ((lcX _ _ _ (rowD n a) p1).bind _) = _
    rw [m1]
    exact if_pos (by simp; omega)
  unfold g__law_is_cut_right
  simp only [b__law_is_cut_right]
  unfold B__law_is_cut_right
  have tk1 : ((consX (liftX fun p : List D => (bin dPlus ((consO (some (tR n a)) (some [])).bind dLen) (some (.int 1)))) (fun t => some ([], t))) ps).bind (fun q => g__law_take q.2 q.1) = some (.int (c : Nat), p1) := by
    simp only [consX, liftX, consO_s, Option.bind_some, Option.map_some, dLen_t, rowD_len, bin_s, dPlus_ii]
    exact e1
  rw [consO_s, consO_s, Option.bind_some, told, Option.bind_some]
  dsimp only
  rw [tk1, Option.bind_some]
  dsimp only
  rw [Option.bind_some, isI_s, Option.map_some, cutd, cutd]
  simp only [consO_s, Option.bind_some, toldc, again, bin_s, (ot.take hc).repr, ot.repr, dNe_self, isB_s, orT_f, iteO_f]
  rw [marks, Option.bind_some]
  dsimp only
  simp only [consO_s, Option.bind_some, zip_marks]
  rw [pk', pk', lN, Option.map_some, consO_s, Option.bind_some, tup, Option.bind_some, lN, Option.bind_some]
  simp only [consO_s, Option.bind_some, tolds, zip_rowl]
  rw [cmp, lA, Option.map_some, consO_s, Option.bind_some, dAll_map, le_late]
  simp only [Option.bind_some, isB_s, Option.map_some, Bool.not_true, iteO_f, iterD_t, loop, seqLp_nx, first, un2_s]
  have tl : (tupX (consX (binX dPlus (liftX fun p : List D => (some (.int b0))) (appX dInt (consX (fun ps => ((consX (liftX fun p => (some (.int 3))) (fun t => some ([], t))) ps).bind fun q => g__law_take q.2 q.1) (fun t => some ([], t))))) (consX (appX dMax (consX (liftX fun p => (some (.int 1))) (consX (binX dSub (liftX fun p => (some (.int e0))) (appX dInt (consX (fun ps => ((consX (liftX fun p => (some (.int 3))) (fun t => some ([], t))) ps).bind fun q => g__law_take q.2 q.1) (fun t => some ([], t))))) (fun t => some ([], t))))) (fun t => some ([], t))))) p2 = some (bkD b' e', p4) := by
    simp only [tupX, lenOkX, consX, binX, appX, liftX, Option.bind_some, Option.map_some, e3, e4, dInt_i, dPlus_ii, dSub_ii, dMax_ii, hb', he']
    rfl
  rw [tl, Option.bind_some]
  dsimp only
  have pb' : dPlus (bksD bs) (.tuple [bkD b' e']) = some (bksD (bs ++ [(b', e')])) := pb
  have pa' : dPlus (.tuple [bkD b' e']) (bksD bs) = some (bksD ((b', e') :: bs)) := pa
  simp only [consO_s, Option.bind_some, l1, Option.map_some, bin_s, pb', pa', behind, ahead, ot.repr, dNe_self, isB_s, orT_f, iteO_f]
  have tz : (appX dInt (consX (fun ps => ((consX (liftX fun p : List D => (some (.int 9000))) (fun t => some ([], t))) ps).bind fun q => g__law_take q.2 q.1) (fun t => some ([], t)))) p4 = some (.int z, p5) := by
    simp only [appX, consX, liftX, Option.bind_some, Option.map_some, e5, dInt_i]
  rw [tz, Option.bind_some]
  simp only [s_later (show n ≤ 100000 by omega), consO_s, Option.bind_some, later, otz.repr, bin_s, dEq_self, Option.map_some]
  rfl
/-! ### the whole law -/
theorem right_ok {ps : List D} (hp : Pot 0 ps) : ∃ ps', g__law_right ps [] = some (.bool true, ps') := by
  obtain ⟨n, a, p1, e1, ra, hp1⟩ := row_ok (many := 14) hp (by decide) (by decide) (by decide)
  obtain ⟨m, c, p2, e2, rc, hp2⟩ := row_ok (many := 14) hp1 (by decide) (by decide) (by decide)
  obtain ⟨b, e, p3, e3, hb, he, hp3⟩ := bucket_ok hp2 (by decide)
  obtain ⟨p4, e4, hp4⟩ := two_right hp3 (by decide) ra rc hb he
  obtain ⟨b2, f2, p5, e5, hb2, he2, hp5⟩ := bucket_ok hp4 (by decide)
  obtain ⟨d, p6, e6, d0, d1, hp6⟩ := take_ok (u := 2) hp5 (by decide) (by decide) (by decide)
  replace e1 : g__law_row ps [.int 14] = some (tR n a, p1) := e1
  replace e2 : g__law_row p1 [.int 14] = some (tR m c, p2) := e2
  have q : Okb b e := ⟨hb.1, by omega, he.1, by omega⟩
  -- one bucket, or two
  obtain ⟨r, hr, hsl, hsm⟩ : ∃ r : List (Int × Int), r.length ≤ 2 ∧ dSlT none (some (1 + d)) (.tuple [bkD b e, bkD b2 f2]) = some (bksD ((b, e) :: r)) ∧ ∀ p ∈ (b, e) :: r, (1 ≤ p.1 ∧ p.1 ≤ 9) ∧ 1 ≤ p.2 ∧ p.2 ≤ 30 := by
    have hd : d = 0 ∨ d = 1 := by omega
    rcases hd with rfl | rfl
    · refine ⟨[], by decide, rfl, fun p hp => ?_⟩
      rw [List.mem_singleton.mp hp]
      exact ⟨hb, he⟩
    · refine ⟨[(b2, f2)], by simp, rfl, fun p hp => ?_⟩
      rcases List.mem_cons.mp hp with rfl | hp
      · exact ⟨hb, he⟩
      · rw [List.mem_singleton.mp hp]
        exact ⟨hb2, he2⟩
  obtain ⟨p7, e7, hp7⟩ := cut_right hp6 (by decide) ra (by omega) hsm
  refine ⟨p7, ?_⟩
  have o0 : Okr 0 a := ⟨by decide, fun i hi => by omega, fun i hi => by omega, fun i j _ hj => by omega⟩
  have sm : Sm ((b, e) :: r) := fun p hp => by have := hsm p hp; exact ⟨⟨this.1.1, by omega⟩, this.2⟩
  have th0 : g_through_all [.tuple [], bksD ((b, e) :: r)] = some (.tuple []) := run_thru (n := 0) (by decide) sm o0 (A := 0) (fun i hi => by omega) (by decide) (List.cons_ne_nil _ _) (by rw [List.length_cons]; omega)
  have w0 : g_longest_wait [.tuple [], bkD b e] = some (.int 0) := s_wait (n := 0) o0 q
  have nil_eq : dEq (.tuple []) (.tuple []) = some (.bool true) := rfl
  have z_eq : dEq (.int 0) (.int 0) = some (.bool true) := by rw [dEq_ii]; rfl
  have l0 : lenOk (some ([] : List D)) = some [] := rfl
  have l2 : ∀ (x y : D) (t : List D), (if ([x, y] : List D).length ≤ 100000 then some (([x, y] : List D), t) else none) = some ([x, y], t) := fun _ _ _ => rfl
  unfold g__law_right
  simp only [b__law_right]
  unfold B__law_right
  simp only [three, consX, liftX, Option.bind_some, Option.map_some, e1, e2, e3, notTX, isBX, e4, isB_s, Bool.not_true]
  simp only [slX, tupX, lenOkX, consX, binX, bindX, liftX, Option.bind_some, Option.map_some, e5, e6, dPlus_ii, isI_s, Bool.false_eq_true, if_false, List.length_cons, List.length_nil]
  rw [if_pos (by decide)]
  simp only [Option.map_some, Option.bind_some, e6, dPlus_ii, isI_s, hsl, andVX, liftX, e7, isB_s, if_true, l0, consO_s, th0, bin_s, nil_eq, w0, z_eq]
  rfl
theorem plain_law (ns : List Int) (hl : ns.length ≤ 63) : g_law [.list (ns.map .int)] = some (.bool true) := by
  obtain ⟨m, m1, m2, hc⟩ := cells_ok ns
  have lc : lcF some (fun p1 : D => some true) (fun p1 : D => (g__law_pot [.list (ns.map .int), p1]).bind fun ps => (some []).bind fun ds => (g__law_right ps ds).map (·.1)) ((List.range m).map fun i => .int (i : Nat)) = some ((List.range m).map fun _ => .bool true) := by
    refine lcF_all (fun i : Nat => .int (i : Nat)) (fun _ => .bool true) (List.range m) fun i hi => ⟨_, rfl, ?_⟩
    obtain ⟨ps, e, hp⟩ := pot_ok ns (p := i) (by have := List.mem_range.mp hi; omega)
    obtain ⟨ps', e2⟩ := right_ok hp
    rw [e, Option.bind_some, Option.bind_some, e2]
    rfl
  unfold g_law
  simp only [b_law]
  unfold B_law
  simp only [consO_s, Option.bind_some, hc, Option.map_some, iterD_l]
  simp only [Option.bind_some] at lc
  rw [lc, lenOk_s (by simp; omega), Option.map_some, consO_s, Option.bind_some, dAll_map]
  simp
end DL

theorem PySem.Challenge.cw_holesheldopen_k61_whole_arrivals_far_apa_holds : PySem.Challenge.rw_holesheldopen_k61_whole_arrivals_far_apa.Holds :=
  DL.the_end DL.plain_law
