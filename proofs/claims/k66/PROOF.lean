import PyProof.Rows.All
import Wide.All
import OpenK.AllK
import Wide.FinOn
import KE.KStateDown
import HandS.ForMost
import HandS.Defaults
import HandS.Evl
import HandS.Walk
import HandS.TupAny
import HandS.Wide
import HandS.Star
import HandS.Zip
import HandS.RaiseMore
import HandS.Style
import HandS.Deep
import HandS.IsInst
import HandS.Conv
import HandS.Flt
import PyProof.Rows.RuleB_pow
import KE.DataCmp
import KE.DataMinMax
import KE.SortData
import PyProof.ReprRoads
import PyProof.TupleOfSeq
import KE.GoesEnum
import HandS.HeadEnd
import HandS.Codes
import PyProof.ReprBulk
import PyProof.FitsInt
import KE.KDictPairs
import PySem.Challenge.RW_holesheldopen_k66_whole_names_of_two_lot
import HandS.Head0
import HandS.Head1
import HandS.Head2
import HandS.HeadHook1
import HandS.HeadHook2
namespace DL
/-- tuples of the walk stand with their object (for dict(t)), or by their items alone (for dicts whose keys are tuples) -/
def plainT : Bool := true
end DL

set_option Elab.async false
set_option linter.all false
set_option maxRecDepth 100000
set_option maxHeartbeats 2000000
set_option autoImplicit false
namespace DL
open PySem PySem.Spec PyProof.Rows L2
abbrev D := PyData
abbrev St := L2.St
abbrev Fr_ := PySem.W.Frag

/-! ### data in the abstract heap -/
/-- a list that stands still: locked, or of the written part -/
def Fz (K : Fr_) (H : Hp) (a : Addr) (xs : List V) : Prop := (∃ o, H a = some (.frz o (.lst xs))) ∨ SqL K (fun _ => none) a xs
theorem Fz.sq {K : Fr_} {H : Hp} {a : Addr} {xs : List V} (h : Fz K H a xs) : SqL K H a xs := by
  rcases h with ⟨o, h⟩ | (h | h)
  · exact .inl (.inr ⟨o, h⟩)
  · rcases h with h | ⟨_, h⟩ <;> cases h
  · exact .inr h
/-! ### tuples of the walk -/
/-- how a tuple of items xs stands at its address -/
def isPT (u : HO) (xs : List V) : Prop := if plainT = true then ∃ o : Obj, o.dict = none ∧ u = .frz o (.tup xs) else u = .tup xs
def TupP (K : Fr_) (H : Hp) (a : Addr) (xs : List V) : Prop := (∃ u, isPT u xs ∧ H a = some u) ∨ (plainT = true ∧ ∃ (o : Obj) (its : Array Value) (n : Nat), K.lookup a = some o ∧ o.cls = .type "tuple" ∧ o.dict = none ∧ o.data = .seq its n ∧ its.size ≤ sizeLine ∧ Vals xs its.toList)
theorem isPT_cases {u : HO} {xs : List V} (h : isPT u xs) : (plainT = true ∧ ∃ o : Obj, o.dict = none ∧ u = .frz o (.tup xs)) ∨ (plainT = false ∧ u = .tup xs) := by
  unfold isPT at h
  cases q : plainT with
  | true =>
    rw [if_pos q] at h
    exact .inl ⟨rfl, h⟩
  | false =>
    rw [if_neg (by rw [q]; exact Bool.false_ne_true)] at h
    exact .inr ⟨rfl, h⟩
theorem isPT_any {o : Obj} (xs : List V) (h : o.dict = none) : ∃ u, isPT u xs ∧ (u = .frz o (.tup xs) ∨ u = .tup xs) := by
  unfold isPT
  cases q : plainT with
  | true => exact ⟨.frz o (.tup xs), ⟨o, h, rfl⟩, .inl rfl⟩
  | false => exact ⟨.tup xs, rfl, .inr rfl⟩
theorem isPT_ok {P : Program} {w : World} {H : Hp} {h : Heap} {a : Addr} {xs : List V} {o : Obj} {u : HO} (e : u = .frz o (.tup xs) ∨ u = .tup xs) (ho : h.get? a = some o) (k : ObjOk P w H h a (.tup xs)) : ObjOk P w H h a u := by
  rcases e with rfl | rfl
  · exact ⟨ho, k⟩
  · exact k
theorem isPT_sq {K : Fr_} {H : Hp} {a : Addr} {u : HO} {xs : List V} (h : isPT u xs) (e : H a = some u) : SqT K H a xs := by
  rcases (isPT_cases h) with ⟨_, o, _, rfl⟩ | ⟨_, rfl⟩
  · exact .inl (.inr ⟨o, e⟩)
  · exact .inl (.inl e)
theorem TupP.sq {K : Fr_} {H : Hp} {a : Addr} {xs : List V} (h : TupP K H a xs) : SqT K H a xs := by
  rcases h with ⟨u, h1, h2⟩ | ⟨_, o, its, n, h1, h2, _, h4, h5, h6⟩
  · exact isPT_sq h1 h2
  · exact .inr ⟨o, its, n, h1, h2, h4, h5, h6⟩
theorem TupP.of {K : Fr_} {H : Hp} {a : Addr} {xs : List V} {u : HO} (h : isPT u xs) (e : H a = some u) : TupP K H a xs := .inl ⟨u, h, e⟩
/-- a dict's key as data -/
def keyD : Key → D
  | .inl i => .int i
  | .inr x => .str x
mutual
inductive Rp (K : Fr_) (H : Hp) : V → D → Prop
  | non : Rp K H .non .none
  | bl (b : Bool) : Rp K H (.bl b) (.bool b)
  | int (i : Int) : Rp K H (.int i) (.int i)
  | str (x : Str) : Rp K H (.str x) (.str x)
  | lst {a : Addr} {xs : List V} {ds : List D} : Fz K H a xs → RpA K H xs ds → Rp K H (.ref a) (.list ds)
  | tup {a : Addr} {xs : List V} {ds : List D} : TupP K H a xs → RpA K H xs ds → Rp K H (.ref a) (.tuple ds)
  | dct {a : Addr} {ws : List (Key × V)} {kvs : List (D × D)} : (∃ o, H a = some (.frz o (.dK ws))) → ws.map (fun p => keyD p.1) = kvs.map (·.1) → RpA K H (ws.map (·.2)) (kvs.map (·.2)) → Rp K H (.ref a) (.dict kvs)
inductive RpA (K : Fr_) (H : Hp) : List V → List D → Prop
  | nil : RpA K H [] []
  | cons {v : V} {vs : List V} {d : D} {ds : List D} : Rp K H v d → RpA K H vs ds → RpA K H (v :: vs) (d :: ds)
end
/-- what stands still stays -/
structure Mono (H H' : Hp) : Prop where
  tup : ∀ b xs, H b = some (.tup xs) → H' b = some (.tup xs)
  frz : ∀ b o u, H b = some (.frz o u) → H' b = some (.frz o u)
theorem Mono.refl (H : Hp) : Mono H H := ⟨fun _ _ h => h, fun _ _ _ h => h⟩
theorem Mono.trans {H H1 H2 : Hp} (a : Mono H H1) (b : Mono H1 H2) : Mono H H2 := ⟨fun c xs h => b.tup c xs (a.tup c xs h), fun c o u h => b.frz c o u (a.frz c o u h)⟩
theorem Mono.of_same {H H' : Hp} (s : Same H H') : Mono H H' := ⟨fun b xs h => s b _ h, fun b o u h => s b _ h⟩
theorem Mono.sqT {K : Fr_} {H H' : Hp} (m : Mono H H') {a : Addr} {xs : List V} (h : SqT K H a xs) : SqT K H' a xs := by
  rcases h with (h | ⟨o, h⟩) | h
  · exact .inl (.inl (m.tup _ _ h))
  · exact .inl (.inr ⟨o, m.frz _ _ _ h⟩)
  · exact .inr h
theorem Mono.pt {K : Fr_} {H H' : Hp} (m : Mono H H') {a : Addr} {xs : List V} (h : TupP K H a xs) : TupP K H' a xs := by
  rcases h with ⟨u, h1, h2⟩ | h
  · refine .inl ⟨u, h1, ?_⟩
    rcases (isPT_cases h1) with ⟨_, o, _, rfl⟩ | ⟨_, rfl⟩
    · exact m.frz _ _ _ h2
    · exact m.tup _ _ h2
  · exact .inr h
theorem Mono.fz {K : Fr_} {H H' : Hp} (m : Mono H H') {a : Addr} {xs : List V} (h : Fz K H a xs) : Fz K H' a xs := by
  rcases h with ⟨o, h⟩ | h
  · exact .inl ⟨o, m.frz _ _ _ h⟩
  · exact .inr h
mutual
theorem Rp.mono {K : Fr_} {H H' : Hp} (m : Mono H H') : ∀ {v : V} {d : D}, Rp K H v d → Rp K H' v d
  | _, _, .non => .non
  | _, _, .bl b => .bl b
  | _, _, .int i => .int i
  | _, _, .str x => .str x
  | _, _, .lst h r => .lst (m.fz h) (RpA.mono m r)
  | _, _, .tup h r => .tup (m.pt h) (RpA.mono m r)
  | _, _, .dct ⟨o, h⟩ e r => .dct ⟨o, m.frz _ _ _ h⟩ e (RpA.mono m r)
theorem RpA.mono {K : Fr_} {H H' : Hp} (m : Mono H H') : ∀ {vs : List V} {ds : List D}, RpA K H vs ds → RpA K H' vs ds
  | _, _, .nil => .nil
  | _, _, .cons h r => .cons (Rp.mono m h) (RpA.mono m r)
end
mutual
theorem Rp.dp {K : Fr_} {H : Hp} : ∀ {v : V} {d : D}, Rp K H v d → d.hasDict = false → Dp K H v d
  | _, _, .non, _ => .non
  | _, _, .bl b, _ => .bl b
  | _, _, .int i, _ => .int i
  | _, _, .str x, _ => .str x
  | _, _, .lst h r, n => .lst h.sq (RpA.dp r (by simpa [PyData.hasDict] using n))
  | _, _, .tup h r, n => .tup h.sq (RpA.dp r (by simpa [PyData.hasDict] using n))
  | _, _, .dct _ _ _, n => by simp [PyData.hasDict] at n
theorem RpA.dp {K : Fr_} {H : Hp} : ∀ {vs : List V} {ds : List D}, RpA K H vs ds → PyData.hasDictAll ds = false → DpAll K H vs ds
  | _, _, .nil, _ => .nil
  | _, _, .cons h r, n => .cons (Rp.dp h (by simp [PyData.hasDictAll] at n; exact n.1)) (RpA.dp r (by simp [PyData.hasDictAll] at n; exact n.2))
end
theorem noDictAll : ∀ {ds : List D}, (∀ d ∈ ds, d.hasDict = false) → PyData.hasDictAll ds = false
  | [], _ => by rw [PyData.hasDictAll]
  | d :: r, h => by rw [PyData.hasDictAll, h d List.mem_cons_self, noDictAll fun x hx => h x (List.mem_cons_of_mem _ hx)]; rfl
theorem RpA.length {K : Fr_} {H : Hp} : ∀ {vs : List V} {ds : List D}, RpA K H vs ds → vs.length = ds.length
  | _, _, .nil => rfl
  | _, _, .cons _ r => congrArg (· + 1) (RpA.length r)
theorem RpA.get {K : Fr_} {H : Hp} : ∀ {vs : List V} {ds : List D} {i : Nat} {d : D}, RpA K H vs ds → ds[i]? = some d → ∃ v, vs[i]? = some v ∧ Rp K H v d
  | _, _, _, _, .nil, e => by simp at e
  | _, _, 0, _, .cons h _, e => by
    simp at e
    subst e
    exact ⟨_, rfl, h⟩
  | _, _, i + 1, _, .cons _ r, e => by
    obtain ⟨v, h1, h2⟩ := RpA.get (i := i) r (by simpa using e)
    exact ⟨v, by simpa using h1, h2⟩
theorem RpA.get' {K : Fr_} {H : Hp} : ∀ {vs : List V} {ds : List D} {i : Nat} {v : V}, RpA K H vs ds → vs[i]? = some v → ∃ d, ds[i]? = some d ∧ Rp K H v d
  | _, _, _, _, .nil, e => by simp at e
  | _, _, 0, _, .cons h _, e => by
    simp at e
    subst e
    exact ⟨_, rfl, h⟩
  | _, _, i + 1, _, .cons _ r, e => by
    obtain ⟨v, h1, h2⟩ := RpA.get' (i := i) r (by simpa using e)
    exact ⟨v, by simpa using h1, h2⟩
theorem RpA.append {K : Fr_} {H : Hp} : ∀ {vs us : List V} {ds es : List D}, RpA K H vs ds → RpA K H us es → RpA K H (vs ++ us) (ds ++ es)
  | _, _, _, _, .nil, s => s
  | _, _, _, _, .cons h r, s => .cons h (RpA.append r s)
theorem RpA.take {K : Fr_} {H : Hp} : ∀ {vs : List V} {ds : List D} (n : Nat), RpA K H vs ds → RpA K H (vs.take n) (ds.take n)
  | _, _, 0, _ => .nil
  | _, _, _ + 1, .nil => .nil
  | _, _, n + 1, .cons h r => .cons h (RpA.take n r)
theorem RpA.drop {K : Fr_} {H : Hp} : ∀ {vs : List V} {ds : List D} (n : Nat), RpA K H vs ds → RpA K H (vs.drop n) (ds.drop n)
  | _, _, 0, r => r
  | _, _, _ + 1, .nil => .nil
  | _, _, n + 1, .cons h r => RpA.drop n r
theorem RpA.set {K : Fr_} {H : Hp} {v : V} {d : D} (h : Rp K H v d) : ∀ {vs : List V} {ds : List D} (i : Nat), RpA K H vs ds → RpA K H (vs.set i v) (ds.set i d)
  | _, _, _, .nil => .nil
  | _, _, 0, .cons _ r => .cons h r
  | _, _, i + 1, .cons q r => .cons q (RpA.set h i r)
theorem RpA.snoc {K : Fr_} {H : Hp} {vs : List V} {ds : List D} {v : V} {d : D} (r : RpA K H vs ds) (h : Rp K H v d) : RpA K H (vs ++ [v]) (ds ++ [d]) := r.append (.cons h .nil)

/-! ### the slots of a frame -/
/-- what is known of a slot: nothing; a value that stands still; a list, a dict that the slot alone holds -/
inductive Cell where
  | any
  | imm (d : D)
  | own (ds : List D)
  | dct (kvs : List (D × D))
def Cell.isOwn : Cell → Bool
  | .own _ => true
  | .dct _ => true
  | _ => false
abbrev Env_ := List Cell
/-- the def's context: the heap at its entry, the lists handed in that it may change, by slot -/
structure FC where
  H0 : Hp
  M : List (Nat × Addr)
/-- what a dict holds -/
def RpK (K : Fr_) (H : Hp) (ws : List (Key × V)) (kvs : List (D × D)) : Prop := ws.map (fun p => keyD p.1) = kvs.map (·.1) ∧ RpA K H (ws.map (·.2)) (kvs.map (·.2))
theorem RpK.mono {K : Fr_} {H H' : Hp} (m : Mono H H') {ws : List (Key × V)} {kvs : List (D × D)} (r : RpK K H ws kvs) : RpK K H' ws kvs := ⟨r.1, r.2.mono m⟩
/-- what a slot alone may hold -/
def isMine : HO → Prop
  | .lst _ => True
  | .dK _ => True
  | _ => False
def CellOk (K : Fr_) (H : Hp) (o : Option (Option V)) : Cell → Prop
  | .any => True
  | .imm d => ∃ v, o = some (some v) ∧ Rp K H v d
  | .own ds => ∃ a xs, o = some (some (.ref a)) ∧ H a = some (.lst xs) ∧ RpA K H xs ds
  | .dct kvs => ∃ a ws, o = some (some (.ref a)) ∧ H a = some (.dK ws) ∧ RpK K H ws kvs
def Owns (Γ : Env_) (σ : St) (a : Addr) : Prop := ∃ (i : Nat) (c : Cell), Γ[i]? = some c ∧ c.isOwn = true ∧ σ[i]? = some (some (.ref a))
structure EnvOk (K : Fr_) (c : FC) (σ : St) (H : Hp) (Γ : Env_) : Prop where
  cells : ∀ (i : Nat) (k : Cell), Γ[i]? = some k → CellOk K H (σ[i]?) k
  apart : ∀ (i j : Nat) (k l : Cell) (a : Addr), i ≠ j → Γ[i]? = some k → k.isOwn = true → Γ[j]? = some l → l.isOwn = true → σ[i]? = some (some (.ref a)) → σ[j]? = some (some (.ref a)) → False
  pres : ∀ b o, c.H0 b = some o → (∀ p ∈ c.M, p.2 ≠ b) → H b = some o
  new : ∀ a, Owns Γ σ a → (∃ p ∈ c.M, p.2 = a) ∨ c.H0 a = none
  pins : ∀ p ∈ c.M, σ[p.1]? = some (some (.ref p.2)) ∧ ∃ k : Cell, Γ[p.1]? = some k ∧ k.isOwn = true
  len : σ.length = Γ.length
/-- the cell stays where what stands still stays, and what the slot alone holds -/
theorem CellOk.keep {K : Fr_} {H H' : Hp} {o : Option (Option V)} (m : Mono H H') : ∀ {k : Cell}, (k.isOwn = true → ∀ a u, o = some (some (.ref a)) → H a = some u → H' a = some u) → CellOk K H o k → CellOk K H' o k
  | .any, _, _ => trivial
  | .imm d, _, ⟨v, e, r⟩ => ⟨v, e, r.mono m⟩
  | .own ds, s, ⟨a, xs, e, h, r⟩ => ⟨a, xs, e, s rfl a _ e h, r.mono m⟩
  | .dct kvs, s, ⟨a, ws, e, h, r⟩ => ⟨a, ws, e, s rfl a _ e h, r.mono m⟩
theorem CellOk.same {K : Fr_} {H H' : Hp} {o : Option (Option V)} (s : Same H H') {k : Cell} (h : CellOk K H o k) : CellOk K H' o k := h.keep (.of_same s) fun _ a u _ e => s a u e
theorem CellOk.mine {K : Fr_} {H : Hp} {o : Option (Option V)} : ∀ {k : Cell}, CellOk K H o k → k.isOwn = true → ∃ a u, o = some (some (.ref a)) ∧ H a = some u ∧ isMine u
  | .own _, ⟨a, xs, e, h, _⟩, _ => ⟨a, _, e, h, trivial⟩
  | .dct _, ⟨a, xs, e, h, _⟩, _ => ⟨a, _, e, h, trivial⟩
theorem EnvOk.same {K : Fr_} {c : FC} {σ : St} {H H' : Hp} {Γ : Env_} (E : EnvOk K c σ H Γ) (s : Same H H') : EnvOk K c σ H' Γ :=
  ⟨fun i k h => (E.cells i k h).same s, E.apart, fun b o h hm => s _ _ (E.pres b o h hm), E.new, E.pins, E.len⟩
/-- what no slot holds stays -/
def Kept (Γ : Env_) (σ : St) (H H' : Hp) : Prop := ∀ b o, H b = some o → ¬ Owns Γ σ b → H' b = some o
theorem Kept.of_same {Γ : Env_} {σ : St} {H H' : Hp} (s : Same H H') : Kept Γ σ H H' := fun b o h _ => s b o h
theorem EnvOk.owned {K : Fr_} {c : FC} {σ : St} {H : Hp} {Γ : Env_} (E : EnvOk K c σ H Γ) {a : Addr} (h : Owns Γ σ a) : ∃ u, H a = some u ∧ isMine u := by
  obtain ⟨i, k, h1, h2, h3⟩ := h
  obtain ⟨b, u, e, hb, hu⟩ := (E.cells i k h1).mine h2
  rw [h3] at e
  cases e
  exact ⟨u, hb, hu⟩
theorem Kept.mono {K : Fr_} {c : FC} {σ : St} {H H' : Hp} {Γ : Env_} (E : EnvOk K c σ H Γ) (k : Kept Γ σ H H') : Mono H H' := by
  refine ⟨fun b xs h => k b _ h fun o => ?_, fun b o u h => k b _ h fun q => ?_⟩
  · obtain ⟨u, e, hu⟩ := E.owned o
    rw [h] at e
    cases e
    exact hu
  · obtain ⟨u, e, hu⟩ := E.owned q
    rw [h] at e
    cases e
    exact hu
theorem isMine.ne_tup {u : HO} (h : isMine u) {xs : List V} : (HO.tup xs) ≠ u := fun e => by
  subst e
  exact h
theorem isMine.ne_frz {u w : HO} {o : Obj} (h : isMine u) : (HO.frz o w) ≠ u := fun e => by
  subst e
  exact h
theorem Same.new {H : Hp} {p : Addr} {o : HO} (h : H p = none) : Same H (upd H p o) := fun b u e => by
  rw [upd_ne (ne_of_none e h)]
  exact e
/-- a value goes into a slot -/
theorem EnvOk.setImm {K : Fr_} {c : FC} {σ : St} {H : Hp} {Γ : Env_} (E : EnvOk K c σ H Γ) {i : Nat} {v : V} {d : D} (r : Rp K H v d) (hm : ∀ p ∈ c.M, p.1 ≠ i) : EnvOk K c (σ.set i (some v)) H (Γ.set i (.imm d)) := by
  have own_of : ∀ {j : Nat} {k : Cell}, (Γ.set i (.imm d))[j]? = some k → k.isOwn = true → j ≠ i ∧ Γ[j]? = some k := fun {j k} h ho => by
    by_cases e : i = j
    · subst e
      rw [List.getElem?_set] at h
      simp at h
      obtain ⟨_, h⟩ := h
      subst h
      cases ho
    · rw [List.getElem?_set_ne e] at h
      exact ⟨fun q => e q.symm, h⟩
  refine ⟨fun j k h => ?_, fun j l k q a hjl h1 h2 h3 h4 h5 h6 => ?_, E.pres, fun a ⟨j, k, h1, h2, h3⟩ => ?_, fun p hp => ?_, by rw [List.length_set, List.length_set, E.len]⟩
  · by_cases e : i = j
    · subst e
      rw [List.getElem?_set] at h
      simp at h
      obtain ⟨hl, h⟩ := h
      subst h
      refine ⟨v, ?_, r⟩
      rw [List.getElem?_set_self (by rw [E.len]; exact hl)]
    · rw [List.getElem?_set_ne e] at h ⊢
      exact E.cells j k h
  · obtain ⟨n1, g1⟩ := own_of h1 h2
    obtain ⟨n2, g2⟩ := own_of h3 h4
    rw [List.getElem?_set_ne (Ne.symm n1)] at h5
    rw [List.getElem?_set_ne (Ne.symm n2)] at h6
    exact E.apart j l k q a hjl g1 h2 g2 h4 h5 h6
  · obtain ⟨n1, g1⟩ := own_of h1 h2
    rw [List.getElem?_set_ne (Ne.symm n1)] at h3
    exact E.new a ⟨j, k, g1, h2, h3⟩
  · obtain ⟨h1, k, h2, h3⟩ := E.pins p hp
    have n := hm p hp
    rw [List.getElem?_set_ne (Ne.symm n), List.getElem?_set_ne (Ne.symm n)]
    exact ⟨h1, k, h2, h3⟩
/-- a new list, dict goes into a slot: H, the heap ahead, does not know it -/
theorem EnvOk.setMine {K : Fr_} {c : FC} {σ : St} {H : Hp} {Γ : Env_} (E : EnvOk K c σ H Γ) {i : Nat} {a : Addr} {w : Cell} (hok : CellOk K H (some (some (.ref a))) w) (hn : ¬ Owns Γ σ a) (h0 : c.H0 a = none) (hm : ∀ p ∈ c.M, p.1 ≠ i) :
    EnvOk K c (σ.set i (some (.ref a))) H (Γ.set i w) := by
  have own_of : ∀ {j : Nat} {k : Cell}, (Γ.set i w)[j]? = some k → k.isOwn = true → j ≠ i → Γ[j]? = some k := fun {j k} h ho e => by
    rw [List.getElem?_set_ne (Ne.symm e)] at h
    exact h
  have at_i : ∀ {j : Nat} {b : Addr}, j = i → (σ.set i (some (.ref a)))[j]? = some (some (.ref b)) → b = a := fun {j b} e h => by
    subst e
    rw [List.getElem?_set] at h
    simp at h
    exact h.2.symm
  have off_i : ∀ {j : Nat} {b : Addr}, j ≠ i → (σ.set i (some (.ref a)))[j]? = some (some (.ref b)) → σ[j]? = some (some (.ref b)) := fun {j b} e h => by
    rw [List.getElem?_set_ne (Ne.symm e)] at h
    exact h
  refine ⟨fun j k h => ?_, fun j l k q b hjl h1 h2 h3 h4 h5 h6 => ?_, E.pres, fun b ⟨j, k, h1, h2, h3⟩ => ?_, fun p hp => ?_, by rw [List.length_set, List.length_set, E.len]⟩
  · by_cases e : i = j
    · subst e
      rw [List.getElem?_set] at h
      simp at h
      obtain ⟨hl, h⟩ := h
      subst h
      rw [List.getElem?_set_self (by rw [E.len]; exact hl)]
      exact hok
    · rw [List.getElem?_set_ne e] at h ⊢
      exact E.cells j k h
  · by_cases ej : j = i
    · have e1 := at_i ej h5
      have el : l ≠ i := fun z => hjl (ej.trans z.symm)
      rw [e1] at h6
      exact hn ⟨l, q, own_of h3 h4 el, h4, off_i el h6⟩
    · by_cases el : l = i
      · have e1 := at_i el h6
        rw [e1] at h5
        exact hn ⟨j, k, own_of h1 h2 ej, h2, off_i ej h5⟩
      · exact E.apart j l k q b hjl (own_of h1 h2 ej) h2 (own_of h3 h4 el) h4 (off_i ej h5) (off_i el h6)
  · by_cases ej : j = i
    · rw [at_i ej h3]
      exact .inr h0
    · exact E.new b ⟨j, k, own_of h1 h2 ej, h2, off_i ej h3⟩
  · obtain ⟨h1, k, h2, h3⟩ := E.pins p hp
    have n := hm p hp
    rw [List.getElem?_set_ne (Ne.symm n), List.getElem?_set_ne (Ne.symm n)]
    exact ⟨h1, k, h2, h3⟩
theorem EnvOk.setOwn {K : Fr_} {c : FC} {σ : St} {H : Hp} {Γ : Env_} (E : EnvOk K c σ H Γ) {i : Nat} {a : Addr} {xs : List V} {ds : List D} (ha : H a = some (.lst xs)) (r : RpA K H xs ds) (hn : ¬ Owns Γ σ a) (h0 : c.H0 a = none) (hm : ∀ p ∈ c.M, p.1 ≠ i) :
    EnvOk K c (σ.set i (some (.ref a))) H (Γ.set i (.own ds)) := E.setMine (w := .own ds) ⟨a, xs, rfl, ha, r⟩ hn h0 hm
theorem EnvOk.ownAt {K : Fr_} {c : FC} {σ : St} {H : Hp} {Γ : Env_} (E : EnvOk K c σ H Γ) {i : Nat} {ds : List D} (h : Γ[i]? = some (.own ds)) : ∃ a xs, σ[i]? = some (some (.ref a)) ∧ H a = some (.lst xs) ∧ RpA K H xs ds := E.cells i _ h
/-- what slot i alone holds is changed (other heap cells of the entry stay) -/
theorem EnvOk.writeC {K : Fr_} {c : FC} {σ : St} {H H' : Hp} {Γ : Env_} (E : EnvOk K c σ H Γ) {i : Nat} {w w' : Cell} {a : Addr} (h : Γ[i]? = some w) (hw : w.isOwn = true) (ha : σ[i]? = some (some (.ref a)))
    (k : ∀ b o, H b = some o → b ≠ a → H' b = some o) (hw' : w'.isOwn = true) (hok : CellOk K H' (some (some (.ref a))) w') : EnvOk K c σ H' (Γ.set i w') := by
  obtain ⟨u0, hl, hmine⟩ := E.owned ⟨i, w, h, hw, ha⟩
  have hil : i < Γ.length := (List.getElem?_eq_some_iff.mp h).1
  have back : ∀ {j : Nat} {q : Cell}, (Γ.set i w')[j]? = some q → q.isOwn = true → ∃ q' : Cell, Γ[j]? = some q' ∧ q'.isOwn = true := fun {j q} h1 h2 => by
    by_cases e : i = j
    · subst e
      exact ⟨_, h, hw⟩
    · rw [List.getElem?_set_ne e] at h1
      exact ⟨q, h1, h2⟩
  have mono : Mono H H' := ⟨fun b zs hb => k b _ hb fun z => (by rw [z, hl] at hb; exact hmine.ne_tup (Option.some.inj hb).symm), fun b o u hb => k b _ hb fun z => (by rw [z, hl] at hb; exact hmine.ne_frz (Option.some.inj hb).symm)⟩
  refine ⟨fun j q hq => ?_, fun j l q q' b hjl h1 h2 h3 h4 h5 h6 => ?_, fun b o hb hm => k b o (E.pres b o hb hm) fun z => ?_, fun b ⟨j, q, h1, h2, h3⟩ => ?_, fun p hp => ?_, by rw [List.length_set, E.len]⟩
  · by_cases e : i = j
    · subst e
      rw [List.getElem?_set_self hil] at hq
      cases hq
      rw [ha]
      exact hok
    · rw [List.getElem?_set_ne e] at hq
      refine (E.cells j q hq).keep mono fun ho b u e1 hb => k b u hb fun z => ?_
      subst z
      exact E.apart i j _ _ b e h hw hq ho ha e1
  · obtain ⟨q1, g1, g2⟩ := back h1 h2
    obtain ⟨q2, g3, g4⟩ := back h3 h4
    exact E.apart j l q1 q2 b hjl g1 g2 g3 g4 h5 h6
  · rcases E.new a ⟨i, _, h, hw, ha⟩ with ⟨p, hp, e⟩ | e
    · exact hm p hp (e.trans z.symm)
    · rw [z, e] at hb
      cases hb
  · obtain ⟨q1, g1, g2⟩ := back h1 h2
    exact E.new b ⟨j, q1, g1, g2, h3⟩
  · obtain ⟨h1, q, h2, h3⟩ := E.pins p hp
    refine ⟨h1, ?_⟩
    by_cases e : i = p.1
    · subst e
      exact ⟨_, List.getElem?_set_self hil, hw'⟩
    · rw [List.getElem?_set_ne e]
      exact ⟨q, h2, h3⟩
theorem EnvOk.write {K : Fr_} {c : FC} {σ : St} {H H' : Hp} {Γ : Env_} (E : EnvOk K c σ H Γ) {i : Nat} {ds es : List D} {a : Addr} {ys : List V} (h : Γ[i]? = some (.own ds)) (ha : σ[i]? = some (some (.ref a)))
    (k : ∀ b o, H b = some o → b ≠ a → H' b = some o) (ha' : H' a = some (.lst ys)) (r : RpA K H' ys es) : EnvOk K c σ H' (Γ.set i (.own es)) := E.writeC h rfl ha k rfl ⟨a, ys, rfl, ha', r⟩
theorem EnvOk.dctAt {K : Fr_} {c : FC} {σ : St} {H : Hp} {Γ : Env_} (E : EnvOk K c σ H Γ) {i : Nat} {kvs : List (D × D)} (h : Γ[i]? = some (.dct kvs)) : ∃ a ws, σ[i]? = some (some (.ref a)) ∧ H a = some (.dK ws) ∧ RpK K H ws kvs := E.cells i _ h
/-- less is known -/
def EnvLe : Env_ → Env_ → Prop
  | [], [] => True
  | c :: r, c' :: r' => (c' = c ∨ c' = .any) ∧ EnvLe r r'
  | _, _ => False
theorem EnvLe.at_ : ∀ {Γ Γ' : Env_}, EnvLe Γ Γ' → Γ.length = Γ'.length ∧ ∀ (i : Nat) (k : Cell), Γ'[i]? = some k → k = .any ∨ Γ[i]? = some k
  | [], [], _ => ⟨rfl, fun i k h => by simp at h⟩
  | c :: r, c' :: r', ⟨h1, h2⟩ => by
    obtain ⟨l, z⟩ := EnvLe.at_ h2
    refine ⟨by simp [l], fun i k h => ?_⟩
    cases i with
    | zero =>
      simp at h
      subst h
      rcases h1 with h1 | h1
      · exact .inr (by simp [h1])
      · exact .inl h1
    | succ i => simpa using z i k (by simpa using h)
  | [], _ :: _, h => h.elim
  | _ :: _, [], h => h.elim
theorem EnvOk.le {K : Fr_} {c : FC} {σ : St} {H : Hp} {Γ Γ' : Env_} (E : EnvOk K c σ H Γ) (l : EnvLe Γ Γ') (hm : ∀ p ∈ c.M, ∃ k : Cell, Γ'[p.1]? = some k ∧ k.isOwn = true) : EnvOk K c σ H Γ' := by
  obtain ⟨ll, z⟩ := l.at_
  have own_of : ∀ {j : Nat} {k : Cell}, Γ'[j]? = some k → k.isOwn = true → Γ[j]? = some k := fun {j k} h ho => by
    rcases z j k h with e | e
    · subst e
      cases ho
    · exact e
  refine ⟨fun i k h => ?_, fun i j k q a hij h1 h2 h3 h4 h5 h6 => E.apart i j k q a hij (own_of h1 h2) h2 (own_of h3 h4) h4 h5 h6, E.pres, fun a ⟨j, k, h1, h2, h3⟩ => E.new a ⟨j, k, own_of h1 h2, h2, h3⟩, fun p hp => ⟨(E.pins p hp).1, hm p hp⟩, by rw [E.len, ll]⟩
  rcases z i k h with e | e
  · subst e
    trivial
  · exact E.cells i k e
/-! ### the rules that make tuples -/
section
variable {X : Cx} {es : List Expr} {t : TA} {pos : Pos}
def tTup' (t : TA) : TE := fun σ H Q => t σ H fun xs H1 => xs.length ≤ sizeLine ∧ ∀ p u, H1 p = none → isPT u xs → Q (.ref p) (upd H1 p u)
theorem pe_tup' {x1} (h : PA X es t) : PE X (.Tuple es x1 pos) (tTup' t) := by
  refine ⟨fun pins s σ H Q I hq => ?_⟩
  refine wpAny_Tuple_spliced (thn (h.run pos pins s σ H _ I hq) fun us s1 ⟨xs, H1, I1, r, z, q⟩ => ⟨by rw [← r.length]; exact z, ?_⟩)
  have hf : H1 s1.heap.objs.size = none := I1.hok.fresh (Nat.le_refl _)
  obtain ⟨u, hu, hu2⟩ := isPT_any (o := { cls := .type "tuple", data := .seq us.toArray }) xs rfl
  refine ⟨.ref s1.heap.objs.size, upd H1 s1.heap.objs.size u, I1.laid (t' := s1.toks) (fun b u e => Heap.get?_push_of_some _ e) (Nat.le_refl _) (isPT_ok hu2 ?_ ?_), rfl, q _ _ hf hu⟩
  · exact Heap.get?_push_size _ rfl
  exact ⟨z, us, r, ⟨_, Heap.get?_push_size _ rfl, rfl, _, rfl⟩⟩
def rSlA' (K : PySem.W.Frag) : V → Option Int → Option Int → Hp → VK → Prop := fun x lo hi H Q => ∃ a xs, x = .ref a ∧ SqT K H a xs ∧
  (HT.sIx xs.length 0 lo = 0 ∧ HT.sIx xs.length xs.length hi = xs.length → Q (.ref a) H) ∧ (¬ (HT.sIx xs.length 0 lo = 0 ∧ HT.sIx xs.length xs.length hi = xs.length) → ∀ p u, H p = none → isPT u (cutV xs lo hi) → Q (.ref p) (upd H p u))
theorem sl_tupA' : SlR X (rSlA' X.K) := by
  intro pins s σ H x v vl vu lo hi sl Q I rx hs pl pu h
  obtain ⟨a, xs, rfl, hx, q1, q2⟩ := h
  cases rx
  obtain ⟨its, r, ht, hz⟩ := I.tuple hx
  have hlen : its.toArray.size = xs.length := by rw [List.size_toArray]; exact r.length.symm
  refine ⟨"tuple", _, PyProof.Rows.slot_tuple_getitem.lookup, ht.typeIs, ?_⟩
  by_cases hw : HT.sIx xs.length 0 lo = 0 ∧ HT.sIx xs.length xs.length hi = xs.length
  · exact getItem_tuple_whole ht hs pl pu (by rw [hlen]; exact hw) ⟨.ref a, H, I, rfl, q1 hw⟩
  · refine HT.getItem_tuple_cut ht hs pl pu (by rw [hlen]; exact hw) ?_ (by rw [hlen]; exact hz)
    rw [hlen]
    obtain ⟨u, hu, hu2⟩ := isPT_any (o := { cls := .type "tuple", data := .seq ((its.drop (HT.sIx xs.length 0 lo)).take (HT.sIx xs.length xs.length hi - HT.sIx xs.length 0 lo)).toArray }) (cutV xs lo hi) rfl
    refine ⟨.ref s.heap.objs.size, _, I.laid (t' := s.toks) (o := u) (fun b ob q => Heap.get?_push_of_some _ q) (Nat.le_refl _) (isPT_ok hu2 ?_ ?_), rfl, q2 hw _ _ (I.hok.fresh (Nat.le_refl _)) hu⟩
    · exact Heap.get?_push_size _ rfl
    exact ⟨Nat.le_trans (cutV_length xs lo hi) hz, _, (r.drop (HT.sIx xs.length 0 lo)).take (HT.sIx xs.length xs.length hi - HT.sIx xs.length 0 lo), IsTup.new _ _⟩
def rCatA' (K : PySem.W.Frag) : R2 := fun x y H Q => ∃ a b xs ys, x = .ref a ∧ y = .ref b ∧ SqT K H a xs ∧ SqT K H b ys ∧ xs.length + ys.length ≤ sizeLine ∧
  (xs = [] → Q (.ref b) H) ∧ (xs ≠ [] → ys = [] → Q (.ref a) H) ∧ (xs ≠ [] → ys ≠ [] → ∀ p u, H p = none → isPT u (xs ++ ys) → Q (.ref p) (upd H p u))
theorem op_catA' : OpR X (binaryOp .Add) (rCatA' X.K) := by
  intro pins s σ H x y v u Q I rx ry h
  obtain ⟨a, b, xs, ys, rfl, rfl, ha, hb, hz, q0, q1, q2⟩ := h
  cases rx
  cases ry
  obtain ⟨its, r1, p1, _⟩ := I.tuple ha
  obtain ⟨its2, r2, p2, _⟩ := I.tuple hb
  by_cases hx : xs = []
  · subst hx
    cases r1
    exact cat_tup0 p1 p2 ⟨.ref b, H, I, rfl, q0 rfl⟩
  · refine HT.cat_tup p1 p2 (fun z => hx (r1.nil_iff.mp z)) (fun z => ⟨.ref a, H, I, rfl, q1 hx (r2.nil_iff.mp z)⟩) (fun z => ?_) (by rw [← r1.length, ← r2.length]; exact hz)
    obtain ⟨u, hu, hu2⟩ := isPT_any (o := { cls := .type "tuple", data := .seq (its ++ its2).toArray }) (xs ++ ys) rfl
    refine ⟨.ref s.heap.objs.size, _, I.laid (t' := s.toks) (o := u) (fun b ob q => Heap.get?_push_of_some _ q) (Nat.le_refl _) (isPT_ok hu2 ?_ ?_), rfl, q2 hx (fun w => z (r2.nil_iff.mpr w)) _ _ (I.hok.fresh (Nat.le_refl _)) hu⟩
    · exact Heap.get?_push_size _ rfl
    exact ⟨by rw [List.length_append]; exact hz, _, r1.append r2, IsTup.new _ _⟩
theorem call_tuple_of' : CallR X (.type "tuple") (fun xs H Q => ∃ p ys, xs = [.ref p] ∧ ((SqL X.K H p ys ∧ ∀ l u, H l = none → isPT u ys → Q (.ref l) (upd H l u)) ∨ (SqT X.K H p ys ∧ Q (.ref p) H))) := by
  intro pins s σ H xs us Q I r h
  obtain ⟨p, ys, rfl, h⟩ := h
  obtain ⟨u, rfl, rx⟩ := vals1 r
  cases rx
  rcases h with ⟨hq, q⟩ | ⟨hq, q⟩
  · obtain ⟨its, r', pl, hz⟩ := I.list hq
    have hlen := r'.length
    refine call_tuple_list pl.isList (fun h' kp => ?_) (by simp only [List.size_toArray] <;> omega)
    have I1 : Inv X pins σ H { s with heap := h' } := I.kept (t' := s.toks) kp
    obtain ⟨u, hu, hu2⟩ := isPT_any (o := { cls := .type "tuple", data := .seq its.toArray }) ys rfl
    have I2 : Inv X pins σ (upd H h'.objs.size u) { s with heap := h'.push { cls := .type "tuple", data := .seq its.toArray } } :=
      I1.laid (t' := s.toks) (fun b o e => Heap.get?_push_of_some _ e) (Nat.le_refl _) (isPT_ok hu2 (Heap.get?_push_size _ rfl) ⟨hz, its, r', IsTup.new _ _⟩)
    exact ⟨.ref h'.objs.size, _, I2, rfl, q _ _ (I1.hok.fresh (Nat.le_refl _)) hu⟩
  · obtain ⟨its, r', pl, hz⟩ := I.tuple hq
    exact call_tuple_same pl ⟨.ref p, H, I, rfl, q⟩
end
end DL

set_option Elab.async false
set_option linter.all false
set_option maxRecDepth 100000
set_option maxHeartbeats 2000000
set_option autoImplicit false
namespace DL
open PySem PySem.Spec PyProof.Rows L2
/-! ### what a piece of syntax does, by its own meaning -/
section
variable {X : Cx}
def sE (X : Cx) (e : Expr) : TE := fun σ H Q => ∀ (pins : List (Addr × Obj)) (s : Shared), Inv X pins σ H s → wpAny (model X.prog X.w) X.A (eval e X.env) (EP X pins σ Q) X.xe s
theorem pe_s (e : Expr) : PE X e (sE X e) := ⟨fun pins s _ _ _ I h => h pins s I⟩
theorem sE_of {e : Expr} {t : TE} {σ : St} {H : Hp} {Q : VK} (h : PE X e t) (q : t σ H Q) : sE X e σ H Q := fun pins s I => h.run pins s σ H Q I q
theorem EP_mono {pins : List (Addr × Obj)} {σ : St} {Q Q' : VK} {u : Value} {s' : Shared} (h : EP X pins σ Q u s') (k : ∀ v H', Q v H' → Q' v H') : EP X pins σ Q' u s' := by
  obtain ⟨v, H', I, r, q⟩ := h
  exact ⟨v, H', I, r, k v H' q⟩
theorem sE_mono {e : Expr} {σ : St} {H : Hp} {Q Q' : VK} (h : sE X e σ H Q) (k : ∀ v H', Q v H' → Q' v H') : sE X e σ H Q' := fun pins s I => thn (h pins s I) fun _ _ z => EP_mono z k
def sT (X : Cx) (e : Expr) : TT := fun σ H Q => ∀ (pins : List (Addr × Obj)) (s : Shared), Inv X pins σ H s → wpAny (model X.prog X.w) X.A (isTrue e X.env (eval e X.env)) (TP X pins σ Q) X.xe s
theorem pt_s (e : Expr) : PT X e (sT X e) := ⟨fun pins s _ _ _ I h => h pins s I⟩
theorem sT_of {e : Expr} {t : TT} {σ : St} {H : Hp} {Q : Bool → Hp → Prop} (h : PT X e t) (q : t σ H Q) : sT X e σ H Q := fun pins s I => h.run pins s σ H Q I q
def sW (X : Cx) (e : Expr) : TT := fun σ H Q => ∀ (whole : Sem Value) (pins : List (Addr × Obj)) (s : Shared), Inv X pins σ H s → wpAny (model X.prog X.w) X.A (isTrue e X.env whole) (TP X pins σ Q) X.xe s
theorem pw_s (e : Expr) : PW X e (sW X e) := ⟨fun wh pins s _ _ _ I h => h wh pins s I⟩
theorem sW_of {e : Expr} {t : TT} {σ : St} {H : Hp} {Q : Bool → Hp → Prop} (h : PW X e t) (q : t σ H Q) : sW X e σ H Q := fun wh pins s I => h.run wh pins s σ H Q I q
def sS (X : Cx) (st : Stmt) : TS := fun D σ H => ∀ (pins : List (Addr × Obj)) (s : Shared), Inv X pins σ H s → wpAny (model X.prog X.w) X.A (exec st X.env) (SP X pins D) X.xe s
theorem ps_s (st : Stmt) : PS X st (sS X st) := ⟨fun pins s _ _ _ I h => h pins s I⟩
theorem sS_of {st : Stmt} {t : TS} {D : Ends} {σ : St} {H : Hp} (h : PS X st t) (q : t D σ H) : sS X st D σ H := fun pins s I => h.run pins s σ H D I q
def sSs (X : Cx) (st : List Stmt) : TS := fun D σ H => ∀ (pins : List (Addr × Obj)) (s : Shared), Inv X pins σ H s → wpAny (model X.prog X.w) X.A (execs st X.env) (SP X pins D) X.xe s
theorem pss_s (st : List Stmt) : PSs X st (sSs X st) := ⟨fun pins s _ _ _ I h => h pins s I⟩
theorem sSs_of {st : List Stmt} {t : TS} {D : Ends} {σ : St} {H : Hp} (h : PSs X st t) (q : t D σ H) : sSs X st D σ H := fun pins s I => h.run pins s σ H D I q
theorem sSs_cons {st : Stmt} {rest : List Stmt} {t : TS} {D : Ends} {σ : St} {H : Hp} (h : PS X st t) (q : t { D with nx := sSs X rest D } σ H) : sSs X (st :: rest) D σ H := sSs_of (pss_cons h (pss_s rest)) q
/-- an argument list -/
def sEs (X : Cx) : List Expr → TA
  | [] => fun _ H Q => Q [] H
  | e :: r => fun σ H Q => sE X e σ H fun v H1 => sEs X r σ H1 fun vs H2 => Q (v :: vs) H2
def NoStar (X : Cx) : List Expr → Prop
  | [] => True
  | e :: r => starEach (e :: r) X.env = (false, eval e X.env) :: starEach r X.env ∧ NoStar X r
theorem pa_s : ∀ {es : List Expr}, NoStar X es → PA X es (sEs X es)
  | [], _ => pa_nil
  | e :: r, ⟨h1, h2⟩ => pa_cons (pe_s e) (pa_s h2) h1
theorem sEs_mono : ∀ {es : List Expr} {σ : St} {H : Hp} {Q Q' : List V → Hp → Prop}, sEs X es σ H Q → (∀ v H', Q v H' → Q' v H') → sEs X es σ H Q'
  | [], _, _, _, _, h, k => k _ _ h
  | e :: r, _, _, _, _, h, k => sE_mono h fun v H1 h1 => sEs_mono (es := r) h1 fun vs H2 h2 => k _ _ h2
/-- what comes is locked for good -/
def tFrz (t : TE) : TE := fun σ H Q => t σ H fun v H' => ∃ a u, v = .ref a ∧ H' a = some u ∧ Mut (some u) ∧ ∀ o, Q v (upd H' a (.frz o u))
theorem pe_frz {e : Expr} {t : TE} (h : PE X e t) : PE X e (tFrz t) := by
  refine ⟨fun pins s σ H Q I hw => ?_⟩
  refine thn (h.run pins s σ H _ I hw) fun u s1 ⟨v, H1, I1, r, a, w, ev, ha, mu, q⟩ => ?_
  obtain ⟨od, I2⟩ := I1.lock ha mu
  exact ⟨v, _, I2, r, q od⟩
end

/-! ### judgements of expressions -/
/-- a value, maybe a list that a slot holds -/
inductive RpW (K : Fr_) (H : Hp) : V → D → Prop
  | st {v : V} {d : D} (h : Rp K H v d) : RpW K H v d
  | ow {a : Addr} {xs : List V} {ds : List D} (h : H a = some (.lst xs)) (r : RpA K H xs ds) : RpW K H (.ref a) (.list ds)
  | od {a : Addr} {ws : List (Key × V)} {kvs : List (D × D)} (h : H a = some (.dK ws)) (r : RpK K H ws kvs) : RpW K H (.ref a) (.dict kvs)
inductive RpWA (K : Fr_) (H : Hp) : List V → List D → Prop
  | nil : RpWA K H [] []
  | cons {v : V} {vs : List V} {d : D} {ds : List D} : RpW K H v d → RpWA K H vs ds → RpWA K H (v :: vs) (d :: ds)
theorem RpW.same {K : Fr_} {H H' : Hp} (s : Same H H') {v : V} {d : D} (h : RpW K H v d) : RpW K H' v d := by
  cases h with
  | st h => exact .st (h.mono (.of_same s))
  | ow h r => exact .ow (s _ _ h) (r.mono (.of_same s))
  | od h r => exact .od (s _ _ h) (r.mono (.of_same s))
theorem RpWA.same {K : Fr_} {H H' : Hp} (s : Same H H') : ∀ {vs : List V} {ds : List D}, RpWA K H vs ds → RpWA K H' vs ds
  | _, _, .nil => .nil
  | _, _, .cons h r => .cons (h.same s) (RpWA.same s r)
theorem RpWA.of {K : Fr_} {H : Hp} : ∀ {vs : List V} {ds : List D}, RpA K H vs ds → RpWA K H vs ds
  | _, _, .nil => .nil
  | _, _, .cons h r => .cons (.st h) (RpWA.of r)
theorem RpW.dp {K : Fr_} {H : Hp} {v : V} {d : D} (h : RpW K H v d) (n : d.hasDict = false) : Dp K H v d := by
  cases h with
  | st h => exact h.dp n
  | ow h r => exact .lst (SqL.of h) (r.dp (by simpa [PyData.hasDict] using n))
  | od h r => simp [PyData.hasDict] at n
/-- a dict, read -/
theorem RpW.dict {K : Fr_} {H : Hp} {v : V} {kvs : List (D × D)} (h : RpW K H v (.dict kvs)) : ∃ a ws, v = .ref a ∧ Rd H a (.dK ws) ∧ RpK K H ws kvs := by
  cases h with
  | st h => cases h with | dct h e r => exact ⟨_, _, rfl, .inr h, e, r⟩
  | od h r => exact ⟨_, _, rfl, .inl h, r⟩
theorem RpW.int {K : Fr_} {H : Hp} {v : V} {i : Int} (h : RpW K H v (.int i)) : v = .int i := by
  cases h with | st h => cases h; rfl
theorem RpW.str {K : Fr_} {H : Hp} {v : V} {i : Str} (h : RpW K H v (.str i)) : v = .str i := by
  cases h with | st h => cases h; rfl
theorem RpW.bool {K : Fr_} {H : Hp} {v : V} {i : Bool} (h : RpW K H v (.bool i)) : v = .bl i := by
  cases h with | st h => cases h; rfl
theorem RpW.none_ {K : Fr_} {H : Hp} {v : V} (h : RpW K H v .none) : v = .non := by
  cases h with | st h => cases h; rfl
theorem RpW.tuple {K : Fr_} {H : Hp} {v : V} {ds : List D} (h : RpW K H v (.tuple ds)) : ∃ a xs, v = .ref a ∧ SqT K H a xs ∧ RpA K H xs ds := by
  cases h with | st h => cases h with | tup h r => exact ⟨_, _, rfl, h.sq, r⟩
theorem RpW.tupleP {K : Fr_} {H : Hp} {v : V} {ds : List D} (h : RpW K H v (.tuple ds)) : ∃ a xs, v = .ref a ∧ TupP K H a xs ∧ RpA K H xs ds := by
  cases h with | st h => cases h with | tup h r => exact ⟨_, _, rfl, h, r⟩
theorem RpW.list {K : Fr_} {H : Hp} {v : V} {ds : List D} (h : RpW K H v (.list ds)) : ∃ a xs, v = .ref a ∧ SqL K H a xs ∧ RpA K H xs ds := by
  cases h with
  | st h => cases h with | lst h r => exact ⟨_, _, rfl, h.sq, r⟩
  | ow h r => exact ⟨_, _, rfl, SqL.of h, r⟩
theorem EnvOk.fresh0 {K : Fr_} {c : FC} {σ : St} {H : Hp} {Γ : Env_} (E : EnvOk K c σ H Γ) {a : Addr} (h : H a = none) : c.H0 a = none := by
  cases q : c.H0 a with
  | none => rfl
  | some o =>
    by_cases hm : ∃ p ∈ c.M, p.2 = a
    · obtain ⟨p, hp, e⟩ := hm
      obtain ⟨h1, k, h2, h3⟩ := E.pins p hp
      obtain ⟨xs, z, _⟩ := E.owned ⟨p.1, k, h2, h3, h1⟩
      rw [e, h] at z
      cases z
    · have z := E.pres a o q fun p hp e => hm ⟨p, hp, e⟩
      rw [h] at z
      cases z
theorem EnvOk.notOwn {K : Fr_} {c : FC} {σ : St} {H : Hp} {Γ : Env_} (E : EnvOk K c σ H Γ) {a : Addr} (h : H a = none) : ¬ Owns Γ σ a := fun o => by
  obtain ⟨xs, z, _⟩ := E.owned o
  rw [h] at z
  cases z
section
variable (X : Cx) (c : FC) (Γ : Env_)
/-- e gives m's value, which stands still; nothing changes -/
def DE (e : Expr) (m : Option D) : Prop := ∀ d, m = some d → ∀ (σ : St) (H : Hp) (Q : VK), EnvOk X.K c σ H Γ → (∀ v H', Same H H' → Rp X.K H' v d → Q v H') → sE X e σ H Q
/-- .. a value, maybe a list that a slot holds -/
def DW (e : Expr) (m : Option D) : Prop := ∀ d, m = some d → ∀ (σ : St) (H : Hp) (Q : VK), EnvOk X.K c σ H Γ → (∀ v H', Same H H' → RpW X.K H' v d → Q v H') → sE X e σ H Q
/-- .. a new list -/
def DF (e : Expr) (m : Option (List D)) : Prop := ∀ ds, m = some ds → ∀ (σ : St) (H : Hp) (Q : VK), EnvOk X.K c σ H Γ → (∀ a H' xs, H a = none → Same H H' → H' a = some (.lst xs) → RpA X.K H' xs ds → Q (.ref a) H') → sE X e σ H Q
/-- arguments -/
def DA (es : List Expr) (m : Option (List D)) : Prop := ∀ ds, m = some ds → ∀ (σ : St) (H : Hp) (Q : List V → Hp → Prop), EnvOk X.K c σ H Γ → (∀ vs H', Same H H' → RpA X.K H' vs ds → Q vs H') → sEs X es σ H Q
def DAw (es : List Expr) (m : Option (List D)) : Prop := ∀ ds, m = some ds → ∀ (σ : St) (H : Hp) (Q : List V → Hp → Prop), EnvOk X.K c σ H Γ → (∀ vs H', Same H H' → RpWA X.K H' vs ds → Q vs H') → sEs X es σ H Q
/-- a test -/
def DT (e : Expr) (m : Option Bool) : Prop := ∀ b, m = some b → ∀ (σ : St) (H : Hp) (Q : Bool → Hp → Prop), EnvOk X.K c σ H Γ → (∀ H', Same H H' → Q b H') → sT X e σ H Q
def DTw (e : Expr) (m : Option Bool) : Prop := ∀ b, m = some b → ∀ (σ : St) (H : Hp) (Q : Bool → Hp → Prop), EnvOk X.K c σ H Γ → (∀ H', Same H H' → Q b H') → sW X e σ H Q
end
/-- what no slot holds stays; no slot holds what it did not hold; what slots held is there -/
structure Step (Γ Γ' : Env_) (σ : St) (H H' : Hp) : Prop where
  s1 : ∀ b o, H b = some o → ¬ Owns Γ σ b → H' b = some o
  s2 : ∀ a, Owns Γ' σ a → Owns Γ σ a
  s3 : ∀ a, Owns Γ σ a → H' a ≠ none
section
variable (X : Cx) (c : FC) {T : Type} (G : T → Env_)
/-- the same where lists that slots hold may change on the way: G tells the slots from what changes -/
def DX (e : Expr) (m : T → Option (D × T)) : Prop := ∀ t d t', m t = some (d, t') → ∀ (σ : St) (H : Hp) (Q : VK), EnvOk X.K c σ H (G t) → (∀ v H', EnvOk X.K c σ H' (G t') → Step (G t) (G t') σ H H' → Rp X.K H' v d → Q v H') → sE X e σ H Q
def DXF (e : Expr) (m : T → Option (List D × T)) : Prop := ∀ t ds t', m t = some (ds, t') → ∀ (σ : St) (H : Hp) (Q : VK), EnvOk X.K c σ H (G t) → (∀ a H' xs, H a = none → EnvOk X.K c σ H' (G t') → Step (G t) (G t') σ H H' → H' a = some (.lst xs) → RpA X.K H' xs ds → Q (.ref a) H') → sE X e σ H Q
def DXA (es : List Expr) (m : T → Option (List D × T)) : Prop := ∀ t ds t', m t = some (ds, t') → ∀ (σ : St) (H : Hp) (Q : List V → Hp → Prop), EnvOk X.K c σ H (G t) → (∀ vs H', EnvOk X.K c σ H' (G t') → Step (G t) (G t') σ H H' → RpA X.K H' vs ds → Q vs H') → sEs X es σ H Q
def DXT (e : Expr) (m : T → Option (Bool × T)) : Prop := ∀ t b t', m t = some (b, t') → ∀ (σ : St) (H : Hp) (Q : Bool → Hp → Prop), EnvOk X.K c σ H (G t) → (∀ H', EnvOk X.K c σ H' (G t') → Step (G t) (G t') σ H H' → Q b H') → sT X e σ H Q
def DXTw (e : Expr) (m : T → Option (Bool × T)) : Prop := ∀ t b t', m t = some (b, t') → ∀ (σ : St) (H : Hp) (Q : Bool → Hp → Prop), EnvOk X.K c σ H (G t) → (∀ H', EnvOk X.K c σ H' (G t') → Step (G t) (G t') σ H H' → Q b H') → sW X e σ H Q
end
theorem Step.refl {K : Fr_} {c : FC} {Γ : Env_} {σ : St} {H : Hp} (E : EnvOk K c σ H Γ) : Step Γ Γ σ H H := ⟨fun _ _ h _ => h, fun _ h => h, fun a h => by
  obtain ⟨xs, e, _⟩ := E.owned h
  rw [e]
  intro z
  cases z⟩
theorem Step.of_same {K : Fr_} {c : FC} {Γ : Env_} {σ : St} {H H' : Hp} (E : EnvOk K c σ H Γ) (s : Same H H') : Step Γ Γ σ H H' := ⟨fun b o h _ => s b o h, fun _ h => h, fun a h => by
  obtain ⟨xs, e, _⟩ := E.owned h
  rw [s _ _ e]
  intro z
  cases z⟩
theorem Step.trans {Γ Γ1 Γ2 : Env_} {σ : St} {H H1 H2 : Hp} (a : Step Γ Γ1 σ H H1) (b : Step Γ1 Γ2 σ H1 H2) : Step Γ Γ2 σ H H2 := ⟨fun x o e n => b.1 x o (a.1 x o e n) fun q => n (a.2 x q), fun x h => a.2 x (b.2 x h), fun x h => by
  by_cases hw : Owns Γ1 σ x
  · exact b.3 x hw
  · cases q : H1 x with
    | none => exact absurd q (a.3 x h)
    | some o =>
      rw [b.1 x o q hw]
      intro z
      cases z⟩
theorem Step.mono {K : Fr_} {c : FC} {Γ Γ1 : Env_} {σ : St} {H H1 : Hp} (E : EnvOk K c σ H Γ) (a : Step Γ Γ1 σ H H1) : Mono H H1 := Kept.mono E a.1
theorem Step.free {K : Fr_} {c : FC} {Γ Γ1 : Env_} {σ : St} {H H1 : Hp} (E : EnvOk K c σ H Γ) (a : Step Γ Γ1 σ H H1) {p : Addr} (h : H1 p = none) : H p = none := by
  cases q : H p with
  | none => rfl
  | some o =>
    by_cases hw : Owns Γ σ p
    · exfalso
      exact a.3 p hw h
    · rw [a.1 p o q hw] at h
      cases h
section
variable {X : Cx} {c : FC} {Γ : Env_}
theorem DE.w {e : Expr} {m : Option D} (h : DE X c Γ e m) : DW X c Γ e m := fun d hd σ H Q E k => h d hd σ H Q E fun v H' s r => k v H' s (.st r)
theorem DA.w {es : List Expr} {m : Option (List D)} (h : DA X c Γ es m) : DAw X c Γ es m := fun d hd σ H Q E k => h d hd σ H Q E fun v H' s r => k v H' s (.of r)
theorem DTw.t {e : Expr} {m : Option Bool} (h : DTw X c Γ e m) : DT X c Γ e m := fun d hd σ H Q E k => fun pins s I => h d hd σ H Q E k _ pins s I
/-- a list that was made and is held by no slot stands still from then on -/
theorem DF.e {e : Expr} {m : Option (List D)} (h : DF X c Γ e m) : DE X c Γ e (m.map .list) := fun d hd σ H Q E k => by
  obtain ⟨ds, e1, rfl⟩ := Option.map_eq_some_iff.mp hd
  refine sE_of (pe_frz (pe_s e)) ?_
  refine h ds e1 σ H _ E fun a H' xs hn s ha r => ⟨a, _, rfl, ha, trivial, fun o => ?_⟩
  have m' : Mono H' (upd H' a (.frz o (.lst xs))) := by
    refine ⟨fun b zs hb => ?_, fun b o' u hb => ?_⟩
    · rw [upd_ne (ne_of hb ha (by intro z; cases z))]
      exact hb
    · rw [upd_ne (ne_of hb ha (by intro z; cases z))]
      exact hb
  refine k _ _ (fun b o' e' => ?_) (.lst (.inl ⟨o, upd_same⟩) (r.mono m'))
  rw [upd_ne (ne_of_none e' hn)]
  exact s b o' e'
/-! constants, names -/
theorem de_int {i : Int} {j : Nat} {pos : Pos} : DE X c Γ (.Constant (.int i) j pos) (some (.int i)) := fun d hd σ H Q E k => by
  cases hd
  exact sE_of pe_int (k _ H (Same.refl H) (.int i))
theorem de_str {i : Str} {j : Nat} {pos : Pos} : DE X c Γ (.Constant (.str i) j pos) (some (.str i)) := fun d hd σ H Q E k => by
  cases hd
  exact sE_of pe_str (k _ H (Same.refl H) (.str i))
theorem de_bool {i : Bool} {j : Nat} {pos : Pos} : DE X c Γ (.Constant (.bool i) j pos) (some (.bool i)) := fun d hd σ H Q E k => by
  cases hd
  exact sE_of pe_bl (k _ H (Same.refl H) (.bl i))
theorem de_none {j : Nat} {pos : Pos} : DE X c Γ (.Constant .none j pos) (some .none) := fun d hd σ H Q E k => by
  cases hd
  exact sE_of pe_non (k _ H (Same.refl H) .non)
theorem de_var (i : Nat) {d : D} {x : Str} {pos : Pos} (h : Γ[i]? = some (.imm d) := by rfl) (hN : X.N[i]? = some x := by rfl) (hv : Vis X.env.scope x := by first | exact Or.inl rfl | exact Or.inr (Or.inl rfl) | exact Or.inr (Or.inr rfl)) (hd : (x == ("__debug__" : Str)) = false := by decide)
    (hcd : (x == ("__classdict__" : Str)) = false := by decide) : DE X c Γ (.Name x pos) (some d) := fun d' hd' σ H Q E k => by
  cases hd'
  obtain ⟨v, e, r⟩ := E.cells i _ h
  exact sE_of (pe_var hN hv hd hcd) ⟨v, e, k v H (Same.refl H) r⟩
theorem dw_own (i : Nat) {ds : List D} {x : Str} {pos : Pos} (h : Γ[i]? = some (.own ds) := by rfl) (hN : X.N[i]? = some x := by rfl) (hv : Vis X.env.scope x := by first | exact Or.inl rfl | exact Or.inr (Or.inl rfl) | exact Or.inr (Or.inr rfl)) (hd : (x == ("__debug__" : Str)) = false := by decide)
    (hcd : (x == ("__classdict__" : Str)) = false := by decide) : DW X c Γ (.Name x pos) (some (.list ds)) := fun d' hd' σ H Q E k => by
  cases hd'
  obtain ⟨a, xs, e, ha, r⟩ := E.cells i _ h
  exact sE_of (pe_var hN hv hd hcd) ⟨_, e, k _ H (Same.refl H) (.ow ha r)⟩
theorem de_gint {x : Str} {i : Int} {pos : Pos} (hm : ∃ t, X.mg x = some (.int i t)) (hg : Gl X x := by rfl) (hd : (x == ("__debug__" : Str)) = false := by decide) : DE X c Γ (.Name x pos) (some (.int i)) := fun d' hd' σ H Q E k => by
  cases hd'
  obtain ⟨t, hm⟩ := hm
  exact sE_of (pe_glob (v := .int i) hg hm ⟨t, rfl⟩ hd) (k _ H (Same.refl H) (.int i))
theorem de_gstr {x i : Str} {pos : Pos} (hm : ∃ t, X.mg x = some (.str i t)) (hg : Gl X x := by rfl) (hd : (x == ("__debug__" : Str)) = false := by decide) : DE X c Γ (.Name x pos) (some (.str i)) := fun d' hd' σ H Q E k => by
  cases hd'
  obtain ⟨t, hm⟩ := hm
  exact sE_of (pe_glob (v := .str i) hg hm ⟨t, rfl⟩ hd) (k _ H (Same.refl H) (.str i))
/-! arguments -/
def consO (m : Option D) (ms : Option (List D)) : Option (List D) := m.bind fun x => ms.map (x :: ·)
theorem da_nil : DA X c Γ [] (some []) := fun ds hd σ H Q E k => by
  cases hd
  exact k [] H (Same.refl H) .nil
theorem da_cons {e : Expr} {es : List Expr} {m : Option D} {ms : Option (List D)} (h : DE X c Γ e m) (hs : DA X c Γ es ms) : DA X c Γ (e :: es) (consO m ms) := fun ds hd σ H Q E k => by
  obtain ⟨x, e1, e2⟩ := Option.bind_eq_some_iff.mp hd
  obtain ⟨xs, e3, rfl⟩ := Option.map_eq_some_iff.mp e2
  refine h x e1 σ H _ E fun v H1 s1 r1 => hs xs e3 σ H1 _ (E.same s1) fun vs H2 s2 r2 => k _ _ (s1.trans s2) (.cons (r1.mono (.of_same s2)) r2)
theorem daw_nil : DAw X c Γ [] (some []) := fun ds hd σ H Q E k => by
  cases hd
  exact k [] H (Same.refl H) .nil
theorem daw_cons {e : Expr} {es : List Expr} {m : Option D} {ms : Option (List D)} (h : DW X c Γ e m) (hs : DAw X c Γ es ms) : DAw X c Γ (e :: es) (consO m ms) := fun ds hd σ H Q E k => by
  obtain ⟨x, e1, e2⟩ := Option.bind_eq_some_iff.mp hd
  obtain ⟨xs, e3, rfl⟩ := Option.map_eq_some_iff.mp e2
  refine h x e1 σ H _ E fun v H1 s1 r1 => hs xs e3 σ H1 _ (E.same s1) fun vs H2 s2 r2 => k _ _ (s1.trans s2) (.cons (r1.same s2) r2)
/-! two-place operators -/
def bin (g : D → D → Option D) (a b : Option D) : Option D := a.bind fun x => b.bind fun y => g x y
/-- an operator, by values: g tells its value -/
def OpD (X : Cx) (f : Value → Value → Sem Value) (g : D → D → Option D) : Prop :=
  OpR X f fun v u H Q => ∃ x y z, RpW X.K H v x ∧ RpW X.K H u y ∧ g x y = some z ∧ ∀ w H', Same H H' → Rp X.K H' w z → Q w H'
theorem de_op {op : Operator} {g : D → D → Option D} {a b : Expr} {ma mb : Option D} {pos : Pos} (ho : OpD X (binaryOp op) g) (ha : DW X c Γ a ma) (hb : DW X c Γ b mb) : DE X c Γ (.BinOp a op b pos) (bin g ma mb) := fun d hd σ H Q E k => by
  obtain ⟨x, e1, e2⟩ := Option.bind_eq_some_iff.mp hd
  obtain ⟨y, e3, e4⟩ := Option.bind_eq_some_iff.mp e2
  refine sE_of (pe_op ho (pe_s a) (pe_s b)) ?_
  refine ha x e1 σ H _ E fun v H1 s1 r1 => hb y e3 σ H1 _ (E.same s1) fun u H2 s2 r2 => ⟨x, y, d, r1.same s2, r2, e4, fun w H3 s3 r3 => k w H3 ((s1.trans s2).trans s3) r3⟩
theorem de_cmp {op : CmpOp} {g : D → D → Option D} {a b : Expr} {ma mb : Option D} {pos : Pos} (ho : OpD X (compareOp op) g) (ha : DW X c Γ a ma) (hb : DW X c Γ b mb) (hm : behindInMarks op b = false := by first | rfl | exact nomark _) : DE X c Γ (.Compare a [op] [b] pos) (bin g ma mb) := fun d hd σ H Q E k => by
  obtain ⟨x, e1, e2⟩ := Option.bind_eq_some_iff.mp hd
  obtain ⟨y, e3, e4⟩ := Option.bind_eq_some_iff.mp e2
  refine sE_of (pe_cmpR ho (pe_s a) (pe_s b) hm) ?_
  refine ha x e1 σ H _ E fun v H1 s1 r1 => hb y e3 σ H1 _ (E.same s1) fun u H2 s2 r2 => ⟨x, y, d, r1.same s2, r2, e4, fun w H3 s3 r3 => k w H3 ((s1.trans s2).trans s3) r3⟩
def isB : D → Option Bool
  | .bool b => some b
  | _ => none
theorem isB_eq {d : D} {b : Bool} (h : isB d = some b) : d = .bool b := by
  cases d <;> simp [isB] at h
  rw [h]
theorem dt_cmp {op : CmpOp} {g : D → D → Option D} {a b : Expr} {ma mb : Option D} {pos : Pos} (ho : OpD X (compareOp op) g) (ha : DW X c Γ a ma) (hb : DW X c Γ b mb) (hm : behindInMarks op b = false := by first | rfl | exact nomark _) : DT X c Γ (.Compare a [op] [b] pos) ((bin g ma mb).bind isB) := fun d hd σ H Q E k => by
  obtain ⟨z, e0, e5⟩ := Option.bind_eq_some_iff.mp hd
  obtain ⟨x, e1, e2⟩ := Option.bind_eq_some_iff.mp e0
  obtain ⟨y, e3, e4⟩ := Option.bind_eq_some_iff.mp e2
  have ez := isB_eq e5
  subst ez
  refine sT_of (pt_cmpR ho (pe_s a) (pe_s b) hm) ?_
  refine ha x e1 σ H _ E fun v H1 s1 r1 => hb y e3 σ H1 _ (E.same s1) fun u H2 s2 r2 => ⟨x, y, _, r1.same s2, r2, e4, fun w H3 s3 r3 => ⟨d, RpW.bool (.st r3), k H3 ((s1.trans s2).trans s3)⟩⟩
/-- a < b < c -/
def chainO (g g' : D → D → Option D) (a b c : Option D) : Option D := a.bind fun x => b.bind fun y => (g x y).bind fun z => (isB z).bind fun t => if t then c.bind fun w => g' y w else some (.bool false)
theorem de_chain {op op' : CmpOp} {g g' : D → D → Option D} {a b e : Expr} {ma mb me : Option D} {pos : Pos} (ho : OpD X (compareOp op) g) (ho' : OpD X (compareOp op') g') (ha : DW X c Γ a ma) (hb : DW X c Γ b mb) (he : DW X c Γ e me)
    (hm : lastMarks [op, op'] [b, e] = false := by with_unfolding_all rfl) : DE X c Γ (.Compare a [op, op'] [b, e] pos) (chainO g g' ma mb me) := fun d hd σ H Q E k => by
  obtain ⟨x, e1, e2⟩ := Option.bind_eq_some_iff.mp hd
  obtain ⟨y, e3, e4⟩ := Option.bind_eq_some_iff.mp e2
  obtain ⟨z, e5, e6⟩ := Option.bind_eq_some_iff.mp e4
  obtain ⟨t, e7, e8⟩ := Option.bind_eq_some_iff.mp e6
  have ez := isB_eq e7
  subst ez
  refine sE_of (pe_chain ho ho' (pe_s a) (pe_s b) (pe_s e) hm) ?_
  refine ha x e1 σ H _ E fun v H1 s1 r1 => hb y e3 σ H1 _ (E.same s1) fun u H2 s2 r2 => ⟨x, y, _, r1.same s2, r2, e5, fun w H3 s3 r3 => ⟨t, RpW.bool (.st r3), ?_⟩⟩
  cases t with
  | true =>
    rw [if_pos rfl] at e8 ⊢
    obtain ⟨w2, e9, e10⟩ := Option.bind_eq_some_iff.mp e8
    exact he w2 e9 σ H3 _ ((E.same (s1.trans s2)).same s3) fun u4 H4 s4 r4 => ⟨y, w2, d, (r2.same s3).same s4, r4, e10, fun w5 H5 s5 r5 => k w5 H5 ((((s1.trans s2).trans s3).trans s4).trans s5) r5⟩
  | false =>
    rw [if_neg Bool.false_ne_true] at e8 ⊢
    cases e8
    exact k _ _ ((s1.trans s2).trans s3) (.bl false)
end
end DL

set_option Elab.async false
set_option linter.all false
set_option maxRecDepth 100000
set_option maxHeartbeats 2000000
set_option autoImplicit false
namespace DL
open PySem PySem.Spec PyProof.Rows L2
section
variable {X : Cx} {c : FC} {Γ : Env_}
theorem dt_chain {op op' : CmpOp} {g g' : D → D → Option D} {a b e : Expr} {ma mb me : Option D} {pos : Pos} (ho : OpD X (compareOp op) g) (ho' : OpD X (compareOp op') g') (ha : DW X c Γ a ma) (hb : DW X c Γ b mb) (he : DW X c Γ e me)
    (hm : lastMarks [op, op'] [b, e] = false := by with_unfolding_all rfl) : DT X c Γ (.Compare a [op, op'] [b, e] pos) ((chainO g g' ma mb me).bind isB) := fun d hd σ H Q E k => by
  obtain ⟨w0, e0, e00⟩ := Option.bind_eq_some_iff.mp hd
  obtain ⟨x, e1, e2⟩ := Option.bind_eq_some_iff.mp e0
  obtain ⟨y, e3, e4⟩ := Option.bind_eq_some_iff.mp e2
  obtain ⟨z, e5, e6⟩ := Option.bind_eq_some_iff.mp e4
  obtain ⟨t, e7, e8⟩ := Option.bind_eq_some_iff.mp e6
  have ez := isB_eq e7
  subst ez
  have ew := isB_eq e00
  subst ew
  refine sT_of (pt_chain ho ho' (pe_s a) (pe_s b) (pe_s e) hm) ?_
  refine ha x e1 σ H _ E fun v H1 s1 r1 => hb y e3 σ H1 _ (E.same s1) fun u H2 s2 r2 => ⟨x, y, _, r1.same s2, r2, e5, fun w H3 s3 r3 => ⟨t, RpW.bool (.st r3), ?_⟩⟩
  cases t with
  | true =>
    rw [if_pos rfl] at e8 ⊢
    obtain ⟨w2, e9, e10⟩ := Option.bind_eq_some_iff.mp e8
    exact he w2 e9 σ H3 _ ((E.same (s1.trans s2)).same s3) fun u4 H4 s4 r4 => ⟨y, w2, _, (r2.same s3).same s4, r4, e10, fun w5 H5 s5 r5 => ⟨d, RpW.bool (.st r5), k H5 ((((s1.trans s2).trans s3).trans s4).trans s5)⟩⟩
  | false =>
    rw [if_neg Bool.false_ne_true] at e8 ⊢
    cases e8
    exact ⟨false, rfl, k _ ((s1.trans s2).trans s3)⟩
/-! and, or, not as tests -/
def andT (a b : Option Bool) : Option Bool := a.bind fun x => if x then b else some false
def orT (a b : Option Bool) : Option Bool := a.bind fun x => if x then some true else b
theorem dt_val {e : Expr} {m : Option D} (h : DE X c Γ e m) (he : ∀ whole, isTrue e X.env whole = (do let v ← whole; standAt e.pos; holding [v] (truthy v)) := by intro _; rfl) : DT X c Γ e (m.bind isB) := fun d hd σ H Q E k => by
  obtain ⟨z, e0, e5⟩ := Option.bind_eq_some_iff.mp hd
  have ez := isB_eq e5
  subst ez
  exact sT_of (pt_val (pe_s e) he) (h _ e0 σ H _ E fun v H' s r => ⟨d, RpW.bool (.st r), k H' s⟩)
theorem dw_and1 {a : Expr} {ma : Option Bool} {pos : Pos} (h : DT X c Γ a ma) : DTw X c Γ (.BoolOp .And [a] pos) ma := fun d hd σ H Q E k => sW_of (pw_and1 (pt_s a)) (h d hd σ H _ E k)
theorem dw_or1 {a : Expr} {ma : Option Bool} {pos : Pos} (h : DT X c Γ a ma) : DTw X c Γ (.BoolOp .Or [a] pos) ma := fun d hd σ H Q E k => sW_of (pw_or1 (pt_s a)) (h d hd σ H _ E k)
theorem dw_and {a b : Expr} {rest : List Expr} {ma mb : Option Bool} {pos : Pos} (h : DT X c Γ a ma) (hb : DTw X c Γ (.BoolOp .And (b :: rest) pos) mb) : DTw X c Γ (.BoolOp .And (a :: b :: rest) pos) (andT ma mb) := fun d hd σ H Q E k => by
  obtain ⟨x, e1, e2⟩ := Option.bind_eq_some_iff.mp hd
  refine sW_of (pw_and (pt_s a) (pw_s _)) (h x e1 σ H _ E fun H1 s1 => ?_)
  cases x with
  | true => exact iteT (hb d e2 σ H1 _ (E.same s1) fun H2 s2 => k H2 (s1.trans s2))
  | false =>
    rw [if_neg Bool.false_ne_true] at e2
    cases e2
    exact iteF (k H1 s1)
theorem dw_or {a b : Expr} {rest : List Expr} {ma mb : Option Bool} {pos : Pos} (h : DT X c Γ a ma) (hb : DTw X c Γ (.BoolOp .Or (b :: rest) pos) mb) : DTw X c Γ (.BoolOp .Or (a :: b :: rest) pos) (orT ma mb) := fun d hd σ H Q E k => by
  obtain ⟨x, e1, e2⟩ := Option.bind_eq_some_iff.mp hd
  refine sW_of (pw_or (pt_s a) (pw_s _)) (h x e1 σ H _ E fun H1 s1 => ?_)
  cases x with
  | true =>
    rw [if_pos rfl] at e2
    cases e2
    exact iteT (k H1 s1)
  | false => exact iteF (hb d e2 σ H1 _ (E.same s1) fun H2 s2 => k H2 (s1.trans s2))
theorem dt_not {a : Expr} {ma : Option Bool} {pos : Pos} (h : DT X c Γ a ma) : DT X c Γ (.UnaryOp .Not a pos) (ma.map (!·)) := fun d hd σ H Q E k => by
  obtain ⟨x, e1, rfl⟩ := Option.map_eq_some_iff.mp hd
  exact sT_of (pt_not (pt_s a)) (h x e1 σ H _ E fun H1 s1 => k H1 s1)
/-! the same as values -/
def andV (a b : Option D) : Option D := (a.bind isB).bind fun x => if x then b else some (.bool false)
def orV (a b : Option D) : Option D := (a.bind isB).bind fun x => if x then some (.bool true) else b
def notV (a : Option D) : Option D := (a.bind isB).map fun x => .bool (!x)
theorem de_one {op : BoolOp} {a : Expr} {ma : Option D} {pos : Pos} (h : DE X c Γ a ma) : DE X c Γ (.BoolOp op [a] pos) ma := fun d hd σ H Q E k => sE_of (pe_one (pe_s a)) (h d hd σ H Q E k)
theorem de_and {a b : Expr} {rest : List Expr} {ma mb : Option D} {pos : Pos} (h : DE X c Γ a ma) (hb : DE X c Γ (.BoolOp .And (b :: rest) pos) mb) : DE X c Γ (.BoolOp .And (a :: b :: rest) pos) (andV ma mb) := fun d hd σ H Q E k => by
  obtain ⟨x, e0, e2⟩ := Option.bind_eq_some_iff.mp hd
  obtain ⟨z, e1, e3⟩ := Option.bind_eq_some_iff.mp e0
  have ez := isB_eq e3
  subst ez
  refine sE_of (pe_and (pe_s a) (pe_s _)) (h _ e1 σ H _ E fun v H1 s1 r1 => ⟨x, RpW.bool (.st r1), ?_⟩)
  cases x with
  | true => exact iteT (hb d e2 σ H1 _ (E.same s1) fun w H2 s2 r2 => k w H2 (s1.trans s2) r2)
  | false =>
    rw [if_neg Bool.false_ne_true] at e2
    cases e2
    exact iteF (k _ H1 s1 (.bl false))
theorem de_or {a b : Expr} {rest : List Expr} {ma mb : Option D} {pos : Pos} (h : DE X c Γ a ma) (hb : DE X c Γ (.BoolOp .Or (b :: rest) pos) mb) : DE X c Γ (.BoolOp .Or (a :: b :: rest) pos) (orV ma mb) := fun d hd σ H Q E k => by
  obtain ⟨x, e0, e2⟩ := Option.bind_eq_some_iff.mp hd
  obtain ⟨z, e1, e3⟩ := Option.bind_eq_some_iff.mp e0
  have ez := isB_eq e3
  subst ez
  refine sE_of (pe_or (pe_s a) (pe_s _)) (h _ e1 σ H _ E fun v H1 s1 r1 => ⟨x, RpW.bool (.st r1), ?_⟩)
  cases x with
  | true =>
    rw [if_pos rfl] at e2
    cases e2
    exact iteT (k _ H1 s1 (.bl true))
  | false => exact iteF (hb d e2 σ H1 _ (E.same s1) fun w H2 s2 r2 => k w H2 (s1.trans s2) r2)
theorem de_not {a : Expr} {ma : Option D} {pos : Pos} (h : DE X c Γ a ma) : DE X c Γ (.UnaryOp .Not a pos) (notV ma) := fun d hd σ H Q E k => by
  obtain ⟨x, e0, rfl⟩ := Option.map_eq_some_iff.mp hd
  obtain ⟨z, e1, e3⟩ := Option.bind_eq_some_iff.mp e0
  have ez := isB_eq e3
  subst ez
  exact sE_of (pe_not (pe_s a)) (h _ e1 σ H _ E fun v H1 s1 r1 => ⟨x, RpW.bool (.st r1), k _ H1 s1 (.bl (!x))⟩)
/-! a if t else b -/
def iteO {α : Type} (t : Option Bool) (a b : Option α) : Option α := t.bind fun x => if x then a else b
theorem de_ite {t a b : Expr} {mt : Option Bool} {ma mb : Option D} {pos : Pos} (ht : DT X c Γ t mt) (ha : DE X c Γ a ma) (hb : DE X c Γ b mb) : DE X c Γ (.IfExp t a b pos) (iteO mt ma mb) := fun d hd σ H Q E k => by
  obtain ⟨x, e1, e2⟩ := Option.bind_eq_some_iff.mp hd
  refine sE_of (pe_ifExp (pt_s t) (pe_s a) (pe_s b)) (ht x e1 σ H _ E fun H1 s1 => ?_)
  cases x with
  | true => exact iteT (ha d e2 σ H1 _ (E.same s1) fun w H2 s2 r2 => k w H2 (s1.trans s2) r2)
  | false => exact iteF (hb d e2 σ H1 _ (E.same s1) fun w H2 s2 r2 => k w H2 (s1.trans s2) r2)
theorem df_ite {t a b : Expr} {mt : Option Bool} {ma mb : Option (List D)} {pos : Pos} (ht : DT X c Γ t mt) (ha : DF X c Γ a ma) (hb : DF X c Γ b mb) : DF X c Γ (.IfExp t a b pos) (iteO mt ma mb) := fun d hd σ H Q E k => by
  obtain ⟨x, e1, e2⟩ := Option.bind_eq_some_iff.mp hd
  refine sE_of (pe_ifExp (pt_s t) (pe_s a) (pe_s b)) (ht x e1 σ H _ E fun H1 s1 => ?_)
  cases x with
  | true => exact iteT (ha d e2 σ H1 _ (E.same s1) fun a H2 xs hn s2 h2 r2 => k a H2 xs (s1.free hn) (s1.trans s2) h2 r2)
  | false => exact iteF (hb d e2 σ H1 _ (E.same s1) fun a H2 xs hn s2 h2 r2 => k a H2 xs (s1.free hn) (s1.trans s2) h2 r2)
/-! displays -/
theorem da_len : ∀ {es : List Expr} {ds : List D}, sEs X es = sEs X es → True := fun _ => trivial
theorem small_ok {n : Nat} (h : n ≤ 1000) : n ≤ sizeLine := Nat.le_trans h (by decide)
def lenOk (m : Option (List D)) : Option (List D) := m.bind fun ds => if ds.length ≤ 100000 then some ds else none
theorem de_tup {es : List Expr} {m : Option (List D)} {x1 : Nat} {pos : Pos} (h : DA X c Γ es m) (hs : NoStar X es := by exact ⟨rfl, rfl, rfl, rfl, trivial⟩) : DE X c Γ (.Tuple es x1 pos) ((lenOk m).map .tuple) := fun d hd σ H Q E k => by
  obtain ⟨ds, e0, rfl⟩ := Option.map_eq_some_iff.mp hd
  obtain ⟨ds', e1, e2⟩ := Option.bind_eq_some_iff.mp e0
  split at e2
  · rename_i hl
    cases e2
    refine sE_of (pe_tup' (pa_s hs)) (h _ e1 σ H _ E fun vs H1 s1 r1 => ⟨?_, fun p u hp hu => ?_⟩)
    · rw [r1.length]
      exact Nat.le_trans hl (by decide)
    · exact k _ _ (s1.trans (Same.new hp)) (.tup (.of hu upd_same) (r1.mono (.of_same (Same.new hp))))
  · cases e2
theorem df_lst {es : List Expr} {m : Option (List D)} {pos : Pos} (h : DA X c Γ es m) (hs : NoStar X es := by exact ⟨rfl, rfl, rfl, rfl, trivial⟩) : DF X c Γ (.List es pos) (lenOk m) := fun d hd σ H Q E k => by
  obtain ⟨ds', e1, e2⟩ := Option.bind_eq_some_iff.mp hd
  split at e2
  · rename_i hl
    cases e2
    refine sE_of (pe_lst (pa_s hs)) (h _ e1 σ H _ E fun vs H1 s1 r1 => ⟨?_, fun p hp => ?_⟩)
    · rw [r1.length]
      exact Nat.le_trans hl (by decide)
    · exact k _ _ _ (s1.free hp) (s1.trans (Same.new hp)) upd_same (r1.mono (.of_same (Same.new hp)))
  · cases e2
/-! dicts -/
/-- data as a key -/
def keyOf : D → Option Key
  | .int i => some (.inl i)
  | .str x => some (.inr x)
  | _ => none
theorem keyOf_keyD (k : Key) : keyOf (keyD k) = some k := by cases k <;> rfl
theorem keyD_keyOf {d : D} {k : Key} (h : keyOf d = some k) : d = keyD k := by
  cases d <;> simp [keyOf] at h <;> subst h <;> rfl
def isK (k : Key) (d : D) : Bool := decide (keyOf d = some k)
theorem isK_keyD (k j : Key) : isK k (keyD j) = decide (j = k) := by
  unfold isK
  rw [keyOf_keyD]
  exact decide_eq_decide.mpr ⟨fun h => Option.some.inj h, fun h => congrArg some h⟩
/-- what stands at k -/
def getK (kvs : List (D × D)) (k : Key) : Option D := (kvs.find? fun p => isK k p.1).map (·.2)
theorem RpK.get {K : Fr_} {H : Hp} (k : Key) : ∀ {ws : List (Key × V)} {kvs : List (D × D)}, RpK K H ws kvs → (valV ws k = none ∧ getK kvs k = none) ∨ ∃ v d, valV ws k = some v ∧ getK kvs k = some d ∧ Rp K H v d
  | [], [], _ => .inl ⟨rfl, rfl⟩
  | [], _ :: _, h => by cases h.1
  | _ :: _, [], h => by cases h.1
  | (j, v) :: r, (q, d) :: r', ⟨h1, h2⟩ => by
    have hq : keyD j = q := (List.cons.inj h1).1
    subst hq
    cases h2 with
    | cons hv hr =>
      by_cases e : j = k
      · exact .inr ⟨v, d, valV_pos e, by simp [getK, List.find?_cons, isK_keyD, e], hv⟩
      · have ih := RpK.get k (ws := r) (kvs := r') ⟨(List.cons.inj h1).2, hr⟩
        have e2 : getK ((keyD j, d) :: r') k = getK r' k := by simp [getK, List.find?_cons, isK_keyD, e]
        rw [e2, valV_neg (p := (j, v)) e]
        exact ih
theorem RpW.key {K : Fr_} {H : Hp} {v : V} {d : D} (h : RpW K H v d) {k : Key} (e : keyOf d = some k) : v = kV k := by
  have := keyD_keyOf e
  subst this
  cases k with
  | inl i => exact h.int
  | inr x => exact h.str
theorem ix_dK : IxR X (fun x y H Q => ∃ (a : Addr) (ws : List (Key × V)) (k : Key) (v : V), x = .ref a ∧ y = kV k ∧ Rd H a (.dK ws) ∧ valV ws k = some v ∧ Q v H) := by
  intro value slice pins s σ H x y v u Q I rx ry h hs
  obtain ⟨a, ws, k, w, rfl, rfl, e, l, q⟩ := h
  obtain rfl : v = Value.ref a := rx
  obtain ⟨z, hd, vs, rel, dd⟩ := dk_rd I.hok e
  obtain ⟨w', hw, rw'⟩ := RelO.some_of (v := w) (o := valueAt vs k) (by rw [← l]; exact rel.val k)
  exact tail_any dd.typeIs slot_dict_getitem.lookup (wpAny_getItem_of (kV_is ry) dd.mapOf hw ⟨w, H, I.tok _, rw', q⟩) hs
/-! items, slices -/
def IxD (X : Cx) (g : D → D → Option D) : Prop := IxR X fun v u H Q => ∃ x y z, RpW X.K H v x ∧ RpW X.K H u y ∧ g x y = some z ∧ ∀ w H', Same H H' → Rp X.K H' w z → Q w H'
def dIx : D → D → Option D
  | .list ds, .int i => atI ds i
  | .tuple ds, .int i => atI ds i
  | .str s, .int i => if s.length ≤ sizeLine then (atI s.cps.toList i).map fun c => .str ⟨#[c]⟩ else none
  | .dict kvs, y => (keyOf y).bind (getK kvs)
  | _, _ => none
theorem RpA.atI {K : Fr_} {H : Hp} {vs : List V} {ds : List D} (r : RpA K H vs ds) {i : Int} {d : D} (h : L2.atI ds i = some d) : ∃ v, L2.atI vs i = some v ∧ Rp K H v d := by
  unfold L2.atI at h ⊢
  rw [r.length]
  obtain ⟨j, e1, e2⟩ := Option.bind_eq_some_iff.mp h
  obtain ⟨v, e3, e4⟩ := r.get e2
  exact ⟨v, by rw [e1]; exact e3, e4⟩
theorem IxR.imp {r r' : R2} (h : IxR X r) (k : ∀ x y H Q, r' x y H Q → r x y H Q) : IxR X r' := fun value slice pins s σ H x y v u Q I rx ry q hs => h value slice pins s σ H x y v u Q I rx ry (k _ _ _ _ q) hs
theorem OpR.imp {f : Value → Value → Sem Value} {r r' : R2} (h : OpR X f r) (k : ∀ x y H Q, r' x y H Q → r x y H Q) : OpR X f r' := fun pins s σ H x y v u Q I rx ry q => h pins s σ H x y v u Q I rx ry (k _ _ _ _ q)
theorem UnR.imp {f : Value → Sem Value} {r r' : V → Hp → VK → Prop} (h : UnR X f r) (k : ∀ x H Q, r' x H Q → r x H Q) : UnR X f r' := fun pins s σ H x v Q I rx q => h pins s σ H x v Q I rx (k _ _ _ q)
theorem CallR.imp {f : Value} {r r' : List V → Hp → VK → Prop} (h : CallR X f r) (k : ∀ x H Q, r' x H Q → r x H Q) : CallR X f r' := fun pins s σ H x v Q I rx q => h pins s σ H x v Q I rx (k _ _ _ q)
theorem MtR.imp {id : String} {r r' : V → List V → Hp → VK → Prop} (h : MtR X id r) (k : ∀ x y H Q, r' x y H Q → r x y H Q) : MtR X id r' := fun pins s σ H x y v u Q I rx ry q => h pins s σ H x y v u Q I rx ry (k _ _ _ _ q)
theorem SlR.imp {r r' : V → Option Int → Option Int → Hp → VK → Prop} (h : SlR X r) (k : ∀ x lo hi H Q, r' x lo hi H Q → r x lo hi H Q) : SlR X r' := fun pins s σ H x v vl vu lo hi sl Q I rx hs pl pu q => h pins s σ H x v vl vu lo hi sl Q I rx hs pl pu (k _ _ _ _ _ q)
theorem id_ix : IxD X dIx := IxR.imp (IxR.or ix_seq ix_dK) fun v u H Q ⟨x, y, z, h1, h2, e, k⟩ => by
  unfold dIx at e
  split at e
  · obtain ⟨a, xs, rfl, hq, r⟩ := h1.list
    have e2 := h2.int
    subst e2
    obtain ⟨w, e3, e4⟩ := r.atI e
    exact .inl (.inl ⟨a, xs, _, w, rfl, rfl, hq, e3, k w H (Same.refl H) e4⟩)
  · obtain ⟨a, xs, rfl, hq, r⟩ := h1.tuple
    have e2 := h2.int
    subst e2
    obtain ⟨w, e3, e4⟩ := r.atI e
    exact .inl (.inr (.inl ⟨a, xs, _, w, rfl, rfl, hq, e3, k w H (Same.refl H) e4⟩))
  · have e1 := h1.str
    have e2 := h2.int
    subst e1 e2
    split at e
    · rename_i hl
      obtain ⟨ch, e3, rfl⟩ := Option.map_eq_some_iff.mp e
      exact .inl (.inr (.inr ⟨_, _, ch, rfl, rfl, hl, e3, k _ H (Same.refl H) (.str _)⟩))
    · cases e
  · obtain ⟨q, e1, e2⟩ := Option.bind_eq_some_iff.mp e
    obtain ⟨a, ws, rfl, hd, r⟩ := h1.dict
    rcases r.get q with ⟨_, z2⟩ | ⟨w, d, g1, g2, g3⟩
    · rw [z2] at e2
      cases e2
    · rw [g2] at e2
      cases e2
      exact .inr ⟨a, ws, q, w, rfl, h2.key e1, hd, g1, k w H (Same.refl H) g3⟩
  · cases e
theorem de_ix {a b : Expr} {ma mb : Option D} {pos : Pos} (ha : DW X c Γ a ma) (hb : DW X c Γ b mb) (hs : PlainIx b := by intro _ _; rfl) : DE X c Γ (.Subscript a b pos) (bin dIx ma mb) := fun d hd σ H Q E k => by
  obtain ⟨x, e1, e2⟩ := Option.bind_eq_some_iff.mp hd
  obtain ⟨y, e3, e4⟩ := Option.bind_eq_some_iff.mp e2
  refine sE_of (pe_ix id_ix (pe_s a) (pe_s b) hs) ?_
  refine ha x e1 σ H _ E fun v H1 s1 r1 => hb y e3 σ H1 _ (E.same s1) fun u H2 s2 r2 => ⟨x, y, d, r1.same s2, r2, e4, fun w H3 s3 r3 => k w H3 ((s1.trans s2).trans s3) r3⟩
/-- a part of a slice -/
def DO (X : Cx) (c : FC) (Γ : Env_) (e : Option Expr) (m : Option (Option Int)) : Prop := ∀ o, m = some o → ∀ (σ : St) (H : Hp) (Q : Option Int → Hp → Prop), EnvOk X.K c σ H Γ → (∀ H', Same H H' → Q o H') → ∃ t : TO, PO X e t ∧ t σ H Q
def isI : D → Option Int
  | .int b => some b
  | _ => none
theorem isI_eq {d : D} {b : Int} (h : isI d = some b) : d = .int b := by
  cases d <;> simp [isI] at h
  rw [h]
def partO : Option (Option D) → Option (Option Int)
  | none => some none
  | some m => m.bind fun d => (isI d).map some
/-- the part's own meaning -/
def sO (X : Cx) : Option Expr → TO
  | none => tNoPart
  | some e => tPart (sE X e)
theorem po_s : ∀ (e : Option Expr), PO X e (sO X e)
  | none => po_none
  | some e => po_some (pe_s e)
inductive DP (X : Cx) (c : FC) (Γ : Env_) : Option Expr → Option (Option Int) → Prop
  | no : DP X c Γ none (some none)
  | yes {e : Expr} {m : Option D} (h : DE X c Γ e m) : DP X c Γ (some e) (m.bind fun d => (isI d).map some)
theorem DP.run {e : Option Expr} {m : Option (Option Int)} (h : DP X c Γ e m) {o : Option Int} (ho : m = some o) {σ : St} {H : Hp} {Q : Option Int → Hp → Prop} (E : EnvOk X.K c σ H Γ) (k : ∀ H', Same H H' → Q o H') : sO X e σ H Q := by
  cases h with
  | no =>
    cases ho
    exact k H (Same.refl H)
  | yes h =>
    obtain ⟨d, e1, e2⟩ := Option.bind_eq_some_iff.mp ho
    obtain ⟨i, e3, rfl⟩ := Option.map_eq_some_iff.mp e2
    have e4 := isI_eq e3
    subst e4
    exact h _ e1 σ H _ E fun v H' s r => ⟨i, RpW.int (.st r), k H' s⟩
theorem RpA.cut {K : Fr_} {H : Hp} {vs : List V} {ds : List D} (r : RpA K H vs ds) (lo hi : Option Int) : RpA K H (cutV vs lo hi) ((ds.drop (HT.sIx ds.length 0 lo)).take (HT.sIx ds.length ds.length hi - HT.sIx ds.length 0 lo)) := by
  unfold cutV
  rw [r.length]
  exact (r.drop _).take _
/-- the items of ds[lo:hi] -/
def cutD {α : Type} (ds : List α) (lo hi : Option Int) : List α := (ds.drop (HT.sIx ds.length 0 lo)).take (HT.sIx ds.length ds.length hi - HT.sIx ds.length 0 lo)
def dSlT (lo hi : Option Int) : D → Option D
  | .tuple ds => some (.tuple (cutD ds lo hi))
  | _ => none
def slO (g : Option Int → Option Int → D → Option D) (m : Option D) (lo hi : Option (Option Int)) : Option D := m.bind fun x => lo.bind fun l => hi.bind fun h => g l h x
theorem cutD_whole {α : Type} {ds : List α} {lo hi : Option Int} (h : HT.sIx ds.length 0 lo = 0 ∧ HT.sIx ds.length ds.length hi = ds.length) : cutD ds lo hi = ds := by
  unfold cutD
  rw [h.1, h.2]
  simp
theorem de_slT {a : Expr} {lo hi : Option Expr} {ma : Option D} {ml mh : Option (Option Int)} {pos p2 : Pos} (ha : DE X c Γ a ma) (hl : DP X c Γ lo ml) (hh : DP X c Γ hi mh) : DE X c Γ (.Subscript a (.Slice lo hi none p2) pos) (slO dSlT ma ml mh) := fun d hd σ H Q E k => by
  obtain ⟨x, e1, e2⟩ := Option.bind_eq_some_iff.mp hd
  obtain ⟨l, e3, e4⟩ := Option.bind_eq_some_iff.mp e2
  obtain ⟨h, e5, e6⟩ := Option.bind_eq_some_iff.mp e4
  unfold dSlT at e6
  split at e6
  · cases e6
    refine sE_of (pe_slice sl_tupA' (pe_s a) (po_s lo) (po_s hi)) ?_
    refine ha _ e1 σ H _ E fun v H1 s1 r1 => hl.run e3 (E.same s1) fun H2 s2 => hh.run e5 ((E.same s1).same s2) fun H3 s3 => ?_
    obtain ⟨b, xs, rfl, hq, r⟩ := RpW.tupleP (.st r1)
    have m23 : Mono H1 H3 := .of_same (s2.trans s3)
    have r' := r.mono m23
    refine ⟨b, xs, rfl, (m23.pt hq).sq, fun hw => ?_, fun hw p u hp hu => ?_⟩
    · rw [r.length] at hw
      exact k _ H3 (s1.trans (s2.trans s3)) (by
        rw [cutD_whole hw]
        exact .tup (m23.pt hq) r')
    · exact k _ _ ((s1.trans (s2.trans s3)).trans (Same.new hp)) (.tup (.of hu upd_same) ((r'.cut l h).mono (.of_same (Same.new hp))))
  · cases e6
theorem df_slL {a : Expr} {lo hi : Option Expr} {ma : Option D} {ml mh : Option (Option Int)} {pos p2 : Pos} (ha : DW X c Γ a ma) (hl : DP X c Γ lo ml) (hh : DP X c Γ hi mh) : DF X c Γ (.Subscript a (.Slice lo hi none p2) pos)
    (ma.bind fun x => ml.bind fun l => mh.bind fun h => match x with | .list ds => some (cutD ds l h) | _ => none) := fun d hd σ H Q E k => by
  obtain ⟨x, e1, e2⟩ := Option.bind_eq_some_iff.mp hd
  obtain ⟨l, e3, e4⟩ := Option.bind_eq_some_iff.mp e2
  obtain ⟨h, e5, e6⟩ := Option.bind_eq_some_iff.mp e4
  split at e6
  · cases e6
    refine sE_of (pe_slice sl_list (pe_s a) (po_s lo) (po_s hi)) ?_
    refine ha _ e1 σ H _ E fun v H1 s1 r1 => hl.run e3 (E.same s1) fun H2 s2 => hh.run e5 ((E.same s1).same s2) fun H3 s3 => ?_
    obtain ⟨b, xs, rfl, hq, r⟩ := (r1.same (s2.trans s3)).list
    refine ⟨b, xs, rfl, hq, fun p hp => ?_⟩
    exact k _ _ _ ((s1.trans (s2.trans s3)).free hp) ((s1.trans (s2.trans s3)).trans (Same.new hp)) upd_same ((r.cut l h).mono (.of_same (Same.new hp)))
  · cases e6
/-! built-in calls by values -/
def CallD (X : Cx) (f : Value) (g : List D → Option D) : Prop := CallR X f fun vs H Q => ∃ ds z, RpWA X.K H vs ds ∧ g ds = some z ∧ ∀ w H', Same H H' → Rp X.K H' w z → Q w H'
def CallF (X : Cx) (f : Value) (g : List D → Option (List D)) : Prop := CallR X f fun vs H Q => ∃ ds z, RpWA X.K H vs ds ∧ g ds = some z ∧ ∀ a H' xs, H a = none → Same H H' → H' a = some (.lst xs) → RpA X.K H' xs z → Q (.ref a) H'
theorem de_callB {x : Str} {id : String} {g : List D → Option D} {e : Expr} {es : List Expr} {m : Option (List D)} {p pos : Pos} (hc : CallD X (.builtin id) g) (hm : X.mg x = none) (ha : DAw X c Γ (e :: es) m) (hg : Gl X x := by rfl) (hv : bootBuiltins x = some (.builtin id) := by decide +kernel)
    (hs : NoStar X (e :: es) := by exact ⟨rfl, rfl, rfl, rfl, trivial⟩) (hn : x ≠ "__name__" := by decide) (hdb : (x == ("__debug__" : Str)) = false := by decide) (hpl : (backTo pos (starEach es X.env)).any (·.1) = false := by rfl) : DE X c Γ (.Call (.Name x p) (e :: es) [] pos) (m.bind g) := fun d hd σ H Q E k => by
  obtain ⟨ds, e1, e2⟩ := Option.bind_eq_some_iff.mp hd
  refine sE_of (pe_callB hc hg hm hv (pa_s hs) hn hdb hs.1 hpl) ?_
  exact ha ds e1 σ H _ E fun vs H1 s1 r1 => ⟨ds, d, r1, e2, fun w H2 s2 r2 => k w H2 (s1.trans s2) r2⟩
theorem df_callB {x : Str} {id : String} {g : List D → Option (List D)} {e : Expr} {es : List Expr} {m : Option (List D)} {p pos : Pos} (hc : CallF X (.builtin id) g) (hm : X.mg x = none) (ha : DAw X c Γ (e :: es) m) (hg : Gl X x := by rfl) (hv : bootBuiltins x = some (.builtin id) := by decide +kernel)
    (hs : NoStar X (e :: es) := by exact ⟨rfl, rfl, rfl, rfl, trivial⟩) (hn : x ≠ "__name__" := by decide) (hdb : (x == ("__debug__" : Str)) = false := by decide) (hpl : (backTo pos (starEach es X.env)).any (·.1) = false := by rfl) : DF X c Γ (.Call (.Name x p) (e :: es) [] pos) (m.bind g) := fun d hd σ H Q E k => by
  obtain ⟨ds, e1, e2⟩ := Option.bind_eq_some_iff.mp hd
  refine sE_of (pe_callB hc hg hm hv (pa_s hs) hn hdb hs.1 hpl) ?_
  exact ha ds e1 σ H _ E fun vs H1 s1 r1 => ⟨ds, d, r1, e2, fun a H2 xs hn s2 h2 r2 => k a H2 xs (s1.free hn) (s1.trans s2) h2 r2⟩
theorem de_callT {x : Str} {id : String} {g : List D → Option D} {e : Expr} {es : List Expr} {m : Option (List D)} {p pos : Pos} (hc : CallD X (.type id) g) (hm : X.mg x = none) (ha : DAw X c Γ (e :: es) m) (hg : Gl X x := by rfl) (hv : bootBuiltins x = some (.type id) := by decide +kernel)
    (hs : NoStar X (e :: es) := by exact ⟨rfl, rfl, rfl, rfl, trivial⟩) (hn : x ≠ "__name__" := by decide) (hdb : (x == ("__debug__" : Str)) = false := by decide) (hpl : (backTo pos (starEach es X.env)).any (·.1) = false := by rfl) : DE X c Γ (.Call (.Name x p) (e :: es) [] pos) (m.bind g) := fun d hd σ H Q E k => by
  obtain ⟨ds, e1, e2⟩ := Option.bind_eq_some_iff.mp hd
  refine sE_of (pe_callTy hc hg hm hv (pa_s hs) hn hdb hs.1 hpl) ?_
  exact ha ds e1 σ H _ E fun vs H1 s1 r1 => ⟨ds, d, r1, e2, fun w H2 s2 r2 => k w H2 (s1.trans s2) r2⟩
theorem df_callT {x : Str} {id : String} {g : List D → Option (List D)} {e : Expr} {es : List Expr} {m : Option (List D)} {p pos : Pos} (hc : CallF X (.type id) g) (hm : X.mg x = none) (ha : DAw X c Γ (e :: es) m) (hg : Gl X x := by rfl) (hv : bootBuiltins x = some (.type id) := by decide +kernel)
    (hs : NoStar X (e :: es) := by exact ⟨rfl, rfl, rfl, rfl, trivial⟩) (hn : x ≠ "__name__" := by decide) (hdb : (x == ("__debug__" : Str)) = false := by decide) (hpl : (backTo pos (starEach es X.env)).any (·.1) = false := by rfl) : DF X c Γ (.Call (.Name x p) (e :: es) [] pos) (m.bind g) := fun d hd σ H Q E k => by
  obtain ⟨ds, e1, e2⟩ := Option.bind_eq_some_iff.mp hd
  refine sE_of (pe_callTy hc hg hm hv (pa_s hs) hn hdb hs.1 hpl) ?_
  exact ha ds e1 σ H _ E fun vs H1 s1 r1 => ⟨ds, d, r1, e2, fun a H2 xs hn s2 h2 r2 => k a H2 xs (s1.free hn) (s1.trans s2) h2 r2⟩
end
end DL

set_option Elab.async false
set_option linter.all false
set_option maxRecDepth 100000
set_option maxHeartbeats 2000000
set_option autoImplicit false
namespace DL
open PySem PySem.Spec PyProof.Rows L2
/-- a truth that nothing reckons out (large numbers on the way) -/
noncomputable def cl (p : Prop) : Bool := @decide p (Classical.propDecidable p)
theorem cl_iff {p : Prop} : cl p = true ↔ p := by
  unfold cl
  exact @decide_eq_true_iff p (Classical.propDecidable p)
/-- an int of at most 1,000 bits -/
noncomputable def fitsM (a : Int) : Bool := cl (a.natAbs < 2 ^ 1000)
def dAdd : D → D → Option D
  | .int a, .int b => some (.int (a + b))
  | .str a, .str b => if a.length + b.length ≤ sizeLine then some (.str (a ++ b)) else none
  | .tuple a, .tuple b => if a.length + b.length ≤ sizeLine then some (.tuple (a ++ b)) else none
  | _, _ => none
def dSub : D → D → Option D
  | .int a, .int b => some (.int (a - b))
  | _, _ => none
noncomputable def dMul : D → D → Option D
  | .int a, .int b => if fitsM a && fitsM b then some (.int (a * b)) else none
  | _, _ => none
noncomputable def dFdiv : D → D → Option D
  | .int a, .int b => if decide (0 < b) && fitsM b then some (.int (a / b)) else none
  | _, _ => none
def dMod : D → D → Option D
  | .int a, .int b => if 0 < b then some (.int (a % b)) else none
  | _, _ => none
noncomputable def dPow : D → D → Option D
  | .int a, .int b => if (cl (0 ≤ b) && cl (b ≤ 1000)) && fitsM a then some (.int (a ^ b.toNat)) else none
  | _, _ => none
def dNeg : D → Option D
  | .int a => some (.int (-a))
  | _ => none
/-- two scalars of one kind -/
def scalD : D → D → Bool
  | .int _, .int _ => true
  | .str _, .str _ => true
  | .bool _, .bool _ => true
  | _, _ => false
def dEq (a b : D) : Option D := if scalD a b || (SeqAt.shaped a && SeqAt.shaped b) then some (.bool (PyData.eqv a b)) else none
def dNe (a b : D) : Option D := if scalD a b || (SeqAt.shaped a && SeqAt.shaped b) then some (.bool (!PyData.eqv a b)) else none
/-- a list of intsD -/
def intsD : List D → Option (List Int)
  | [] => some []
  | .int i :: r => (intsD r).map (i :: ·)
  | _ :: _ => none
theorem ints_eq : ∀ {ds : List D} {ns : List Int}, intsD ds = some ns → ds = ns.map .int
  | [], _, h => by cases h; rfl
  | .int i :: r, ns, h => by
    obtain ⟨z, e, rfl⟩ := Option.map_eq_some_iff.mp h
    rw [ints_eq e]
    rfl
  | .none :: _, _, h => by cases h
  | .bool _ :: _, _, h => by cases h
  | .str _ :: _, _, h => by cases h
  | .list _ :: _, _, h => by cases h
  | .tuple _ :: _, _, h => by cases h
  | .dict _ :: _, _, h => by cases h
theorem ints_map (ns : List Int) : intsD (ns.map .int) = some ns := by
  induction ns with
  | nil => rfl
  | cons n r ih => show (intsD (r.map .int)).map (n :: ·) = _; rw [ih]; rfl
theorem RpA.intsD {K : Fr_} {H : Hp} : ∀ {vs : List V} {ns : List Int}, RpA K H vs (ns.map .int) → vs = ns.map V.int
  | _, [], .nil => rfl
  | _, _ :: _, .cons h r => by
    cases h
    rw [RpA.intsD r]
    rfl
theorem RpA.ofInts {K : Fr_} {H : Hp} : ∀ (ns : List Int), RpA K H (ns.map V.int) (ns.map .int)
  | [] => .nil
  | n :: r => .cons (.int n) (RpA.ofInts r)
def isN : D → Bool
  | .none => true
  | _ => false
/-- the two can be compared -/
def ordOk (a b : D) : Bool := PySem.W.alike a b && (!isN a && (decide (a.depth ≤ 64) && (!a.hasDict && !b.hasDict)))
def dLt (a b : D) : Option D := if ordOk a b then some (.bool (PySem.W.dataLt a b)) else none
def dLe (a b : D) : Option D := if ordOk a b then some (.bool (!PySem.W.dataLt b a)) else none
def dGt (a b : D) : Option D := if ordOk a b then some (.bool (PySem.W.dataLt b a)) else none
def dGe (a b : D) : Option D := if ordOk a b then some (.bool (!PySem.W.dataLt a b)) else none
/-- x is None, x is True -/
def dIs : D → D → Option D
  | x, .none => some (.bool (isN x))
  | .bool a, .bool b => some (.bool (decide (a = b)))
  | _, _ => none
def dIsNot : D → D → Option D
  | x, .none => some (.bool (!isN x))
  | .bool a, .bool b => some (.bool (!decide (a = b)))
  | _, _ => none
/-- what is flat -/
def flatD : D → Bool
  | .none => true
  | .bool _ => true
  | .int _ => true
  | .str _ => true
  | _ => false
def dIn : D → D → Option D
  | x, .list ds => if SeqAt.shaped x && SeqAt.shaped (.list ds) then some (.bool (ds.any fun z => PyData.eqv z x)) else none
  | x, .tuple ds => if flatD x && ds.all flatD then some (.bool (ds.any fun z => PyData.eqv z x)) else none
  | .str x, .str y => if x.length = 1 then some (.bool (y.cps.toList.contains (x.cps.getD 0 0))) else none
  | x, .dict kvs => (keyOf x).map fun k => .bool (getK kvs k).isSome
  | _, _ => none
def dNotIn (x y : D) : Option D := (dIn x y).bind isB |>.map fun b => .bool (!b)
section
variable {X : Cx}
theorem fitsM_lt {a : Int} (h : fitsM a = true) : a.natAbs < 2 ^ 1000 := cl_iff.mp h
theorem od_add : OpD X (binaryOp .Add) dAdd := OpR.imp (OpR.or op_add (OpR.or op_add_str op_catA')) fun v u H Q ⟨x, y, z, h1, h2, e, k⟩ => by
  unfold dAdd at e
  split at e
  · cases e
    exact .inl ⟨_, _, h1.int, h2.int, k _ H (Same.refl H) (.int _)⟩
  · split at e
    · rename_i hl
      cases e
      exact .inr (.inl ⟨_, _, h1.str, h2.str, hl, k _ H (Same.refl H) (.str _)⟩)
    · cases e
  · split at e
    · rename_i hl
      cases e
      obtain ⟨p, xs, rfl, hp, r1⟩ := h1.tupleP
      obtain ⟨q, ys, rfl, hq, r2⟩ := h2.tupleP
      refine .inr (.inr ⟨p, q, xs, ys, rfl, rfl, hp.sq, hq.sq, by rw [r1.length, r2.length]; exact hl, fun h0 => ?_, fun _ h0 => ?_, fun _ _ t u ht hu => ?_⟩)
      · subst h0
        cases r1
        exact k _ H (Same.refl H) (.tup hq r2)
      · subst h0
        cases r2
        rw [List.append_nil] at k
        exact k _ H (Same.refl H) (.tup hp r1)
      · exact k _ _ (Same.new ht) (.tup (.of hu upd_same) ((r1.append r2).mono (.of_same (Same.new ht))))
    · cases e
  · cases e
theorem od_sub : OpD X (binaryOp .Sub) dSub := OpR.imp op_sub fun v u H Q ⟨x, y, z, h1, h2, e, k⟩ => by
  unfold dSub at e
  split at e
  · cases e
    exact ⟨_, _, h1.int, h2.int, k _ H (Same.refl H) (.int _)⟩
  · cases e
theorem od_mul : OpD X (binaryOp .Mult) dMul := OpR.imp op_mulW fun v u H Q ⟨x, y, z, h1, h2, e, k⟩ => by
  unfold dMul at e
  split at e
  · split at e
    · rename_i hc
      cases e
      obtain ⟨c1, c2⟩ := Bool.and_eq_true_iff.mp hc
      exact ⟨_, _, h1.int, h2.int, wide_mul (fitsM_lt c1) (fitsM_lt c2) (by decide) (by decide) (by decide), k _ H (Same.refl H) (.int _)⟩
    · cases e
  · cases e
theorem od_fdiv : OpD X (binaryOp .FloorDiv) dFdiv := OpR.imp op_fdivW fun v u H Q ⟨x, y, z, h1, h2, e, k⟩ => by
  unfold dFdiv at e
  split at e
  · split at e
    · rename_i hc
      cases e
      obtain ⟨c1, c2⟩ := Bool.and_eq_true_iff.mp hc
      exact ⟨_, _, h1.int, h2.int, wide_div (of_decide_eq_true c1) (fitsM_lt c2) (by decide) (by decide), k _ H (Same.refl H) (.int _)⟩
    · cases e
  · cases e
theorem od_mod : OpD X (binaryOp .Mod) dMod := OpR.imp op_mod fun v u H Q ⟨x, y, z, h1, h2, e, k⟩ => by
  unfold dMod at e
  split at e
  · split at e
    · rename_i hc
      cases e
      exact ⟨_, _, h1.int, h2.int, hc, k _ H (Same.refl H) (.int _)⟩
    · cases e
  · cases e
theorem op_powW : OpR X (binaryOp .Pow) (rI (fun i j => 0 ≤ j ∧ (Builtin.Int.intBits i : Int) * j ≤ 2 ^ 27) fun i j => .int (i ^ j.toNat)) := opI fun _ _ _ _ _ _ _ hc q => pow_int hc.1 hc.2 q
theorem od_pow : OpD X (binaryOp .Pow) dPow := OpR.imp op_powW fun v u H Q ⟨x, y, z, h1, h2, e, k⟩ => by
  unfold dPow at e
  split at e
  · split at e
    · rename_i a b hc
      cases e
      obtain ⟨c0, c3⟩ := Bool.and_eq_true_iff.mp hc
      obtain ⟨c1, c2⟩ := Bool.and_eq_true_iff.mp c0
      refine ⟨_, _, h1.int, h2.int, ⟨cl_iff.mp c1, ?_⟩, k _ H (Same.refl H) (.int _)⟩
      have hb : Builtin.Int.intBits a ≤ 1001 := by
        have h3 := PySem.Flt.log2_lt_of (by decide) (fitsM_lt c3)
        unfold Builtin.Int.intBits
        split <;> omega
      have h4 : (Builtin.Int.intBits a : Int) * b ≤ 1001 * 1000 := Int.mul_le_mul (by omega) (cl_iff.mp c2) (cl_iff.mp c1) (by decide)
      omega
    · cases e
  · cases e
def UnD (X : Cx) (f : Value → Sem Value) (g : D → Option D) : Prop := UnR X f fun v H Q => ∃ x z, RpW X.K H v x ∧ g x = some z ∧ ∀ w H', Same H H' → Rp X.K H' w z → Q w H'
theorem ud_neg : UnD X (unaryOp .USub) dNeg := UnR.imp un_neg fun v H Q ⟨x, z, h1, e, k⟩ => by
  unfold dNeg at e
  split at e
  · cases e
    exact ⟨_, h1.int, k _ H (Same.refl H) (.int _)⟩
  · cases e
theorem de_un {c : FC} {Γ : Env_} {op : UnaryOp} {g : D → Option D} {a : Expr} {ma : Option D} {pos : Pos} (ho : UnD X (unaryOp op) g) (ha : DE X c Γ a ma) : DE X c Γ (.UnaryOp op a pos) (ma.bind g) := fun d hd σ H Q E k => by
  obtain ⟨x, e1, e2⟩ := Option.bind_eq_some_iff.mp hd
  refine sE_of (pe_un ho (pe_s a)) ?_
  exact ha x e1 σ H _ E fun v H1 s1 r1 => ⟨x, d, .st r1, e2, fun w H3 s3 r3 => k w H3 (s1.trans s3) r3⟩
theorem shaped_noDict {d : D} (h : SeqAt.shaped d = true) : d.hasDict = false := PyData.hasDict_of_canLay d (SeqAt.canLay_of_shaped h)
theorem scal_of {K : Fr_} {H : Hp} {v u : V} {a b : D} (h1 : RpW K H v a) (h2 : RpW K H u b) (h : scalD a b = true) : scal v u = true ∧ decide (v = u) = PyData.eqv a b := by
  unfold scalD at h
  split at h
  · have e1 := h1.int
    have e2 := h2.int
    subst e1 e2
    exact ⟨rfl, by rw [dec_int]; simp [PyData.eqv]⟩
  · have e1 := h1.str
    have e2 := h2.str
    subst e1 e2
    exact ⟨rfl, by rw [dec_str]; simp [PyData.eqv]⟩
  · have e1 := h1.bool
    have e2 := h2.bool
    subst e1 e2
    exact ⟨rfl, by rw [dec_bl]; simp [PyData.eqv]⟩
  · cases h
theorem od_eq (hu : X.A.units + 64 < cLine) : OpD X (compareOp .Eq) dEq := OpR.imp (OpR.or op_eq (op_eqD hu)) fun v u H Q ⟨x, y, z, h1, h2, e, k⟩ => by
  unfold dEq at e
  split at e
  · rename_i hc
    cases e
    cases hs : scalD x y with
    | true =>
      obtain ⟨g1, g2⟩ := scal_of h1 h2 hs
      exact .inl ⟨g1, by rw [g2]; exact k _ H (Same.refl H) (.bl _)⟩
    | false =>
      rw [hs, Bool.false_or] at hc
      obtain ⟨c1, c2⟩ := Bool.and_eq_true_iff.mp hc
      exact .inr ⟨x, y, h1.dp (shaped_noDict c1), h2.dp (shaped_noDict c2), c1, c2, k _ H (Same.refl H) (.bl _)⟩
  · cases e
theorem od_ne (hu : X.A.units + 64 < cLine) : OpD X (compareOp .NotEq) dNe := OpR.imp (OpR.or op_ne (op_neD hu)) fun v u H Q ⟨x, y, z, h1, h2, e, k⟩ => by
  unfold dNe at e
  split at e
  · rename_i hc
    cases e
    cases hs : scalD x y with
    | true =>
      obtain ⟨g1, g2⟩ := scal_of h1 h2 hs
      exact .inl ⟨g1, by rw [g2]; exact k _ H (Same.refl H) (.bl _)⟩
    | false =>
      rw [hs, Bool.false_or] at hc
      obtain ⟨c1, c2⟩ := Bool.and_eq_true_iff.mp hc
      exact .inr ⟨x, y, h1.dp (shaped_noDict c1), h2.dp (shaped_noDict c2), c1, c2, k _ H (Same.refl H) (.bl _)⟩
  · cases e
theorem isN_ne {d : D} (h : isN d = false) : d ≠ .none := fun e => by
  subst e
  cases h
theorem ordOk_iff {a b : D} (h : ordOk a b = true) : PySem.W.alike a b = true ∧ a ≠ .none ∧ a.depth ≤ 64 ∧ a.hasDict = false ∧ b.hasDict = false := by
  obtain ⟨h1, h2⟩ := Bool.and_eq_true_iff.mp h
  obtain ⟨h3, h4⟩ := Bool.and_eq_true_iff.mp h2
  obtain ⟨h5, h6⟩ := Bool.and_eq_true_iff.mp h4
  obtain ⟨h7, h8⟩ := Bool.and_eq_true_iff.mp h6
  exact ⟨h1, isN_ne (by simpa using h3), of_decide_eq_true h5, by simpa using h7, by simpa using h8⟩
theorem od_ord {op : CmpOp} {g : D → D → Bool} (hu : X.A.units + 64 < cLine)
    (hg : ∀ {s : Shared} {a b : Value} {da db : PyData} {as bs : List Addr} {Q : Value → Shared → Prop}, Reads s.heap a da as → Reads s.heap b db bs → PySem.W.alike da db = true → da ≠ .none → X.A.units + min da.depth db.depth < cLine → Q (.bool (g da db)) s → wpAny (model X.prog X.w) X.A (compareOp op a b) Q X.xe s) :
    OpD X (compareOp op) fun a b => if ordOk a b then some (.bool (g a b)) else none := by
  intro pins s σ H x y v u Q I rx ry ⟨dx, dy, z, h1, h2, e0, k⟩
  have e : (if ordOk dx dy then some (PyData.bool (g dx dy)) else none) = some z := e0
  split at e
  · rename_i hc
    cases e
    obtain ⟨c1, c2, c3, c4, c5⟩ := ordOk_iff hc
    obtain ⟨as, r1⟩ := Dp.reads I dx x v (h1.dp c4) rx
    obtain ⟨bs, r2⟩ := Dp.reads I dy y u (h2.dp c5) ry
    exact hg r1 r2 c1 c2 (by omega) ⟨.bl _, H, I, rfl, k _ H (Same.refl H) (.bl _)⟩
  · cases e
theorem od_lt (hu : X.A.units + 64 < cLine) : OpD X (compareOp .Lt) dLt := od_ord (g := fun a b => PySem.W.dataLt a b) hu PySem.W.lt_data
theorem od_le (hu : X.A.units + 64 < cLine) : OpD X (compareOp .LtE) dLe := od_ord (g := fun a b => !PySem.W.dataLt b a) hu PySem.W.le_data
theorem od_gt (hu : X.A.units + 64 < cLine) : OpD X (compareOp .Gt) dGt := od_ord (g := fun a b => PySem.W.dataLt b a) hu PySem.W.gt_data
theorem od_ge (hu : X.A.units + 64 < cLine) : OpD X (compareOp .GtE) dGe := od_ord (g := fun a b => !PySem.W.dataLt a b) hu PySem.W.ge_data
theorem RpW.isN {K : Fr_} {H : Hp} {v : V} {d : D} (h : RpW K H v d) : decide (v = .non) = DL.isN d := by
  cases h with
  | st h => cases h <;> rfl
  | ow h r => rfl
  | od h r => rfl
theorem od_is : OpD X (compareOp .Is) dIs := OpR.imp (OpR.or op_isN op_isBl) fun v u H Q ⟨x, y, z, h1, h2, e, k⟩ => by
  unfold dIs at e
  split at e
  · cases e
    refine .inl ⟨h2.none_, ?_⟩
    rw [h1.isN]
    exact k _ H (Same.refl H) (.bl _)
  · cases e
    exact .inr ⟨_, _, h1.bool, h2.bool, k _ H (Same.refl H) (.bl _)⟩
  · cases e
theorem od_isnot : OpD X (compareOp .IsNot) dIsNot := OpR.imp (OpR.or op_notN op_notBl) fun v u H Q ⟨x, y, z, h1, h2, e, k⟩ => by
  unfold dIsNot at e
  split at e
  · cases e
    refine .inl ⟨h2.none_, ?_⟩
    rw [h1.isN]
    exact k _ H (Same.refl H) (.bl _)
  · cases e
    exact .inr ⟨_, _, h1.bool, h2.bool, k _ H (Same.refl H) (.bl _)⟩
  · cases e
theorem flat_rp {K : Fr_} {H : Hp} {v : V} {d : D} (h : Rp K H v d) (f : flatD d = true) : flatV v = true := by
  cases h <;> first | rfl | cases f
theorem eqV_eqv {K : Fr_} {H : Hp} {v u : V} {d e : D} (h : Rp K H v d) (h' : Rp K H u e) (f : flatD d = true) (f' : flatD e = true) : eqV v u = PyData.eqv d e := by
  cases h <;> first
    | (cases f; done)
    | (cases h' <;> first
        | (cases f'; done)
        | rfl
        | (simp [eqV, PyData.eqv, b2i] <;> done)
        | (rename_i a b; cases a <;> cases b <;> rfl)
        | (rename_i a b; cases a <;> simp [eqV, PyData.eqv, b2i])
        | (rename_i a b; cases b <;> simp [eqV, PyData.eqv, b2i]))
theorem RpA.flat {K : Fr_} {H : Hp} : ∀ {vs : List V} {ds : List D}, RpA K H vs ds → ds.all flatD = true → vs.all flatV = true
  | _, _, .nil, _ => rfl
  | _, _, .cons h r, f => by
    rw [List.all_cons, Bool.and_eq_true] at f ⊢
    exact ⟨flat_rp h f.1, RpA.flat r f.2⟩
theorem RpA.inV {K : Fr_} {H : Hp} {v : V} {d : D} (h : Rp K H v d) (f : flatD d = true) : ∀ {vs : List V} {ds : List D}, RpA K H vs ds → ds.all flatD = true → L2.inV v vs = ds.any fun z => PyData.eqv z d
  | _, _, .nil, _ => rfl
  | _, _, .cons h' r, g => by
    rw [List.all_cons, Bool.and_eq_true] at g
    have e2 := RpA.inV h f r g.2
    unfold L2.inV at e2 ⊢
    rw [List.any_cons, List.any_cons, eqV_eqv h' h g.1 f, e2]
/-! in, not in -/
theorem one_sign {x : Str} (h : x.length = 1) : x = ⟨#[x.cps.getD 0 0]⟩ := by
  obtain ⟨⟨l⟩⟩ := x
  have h' : l.length = 1 := h
  match l, h' with
  | [a], _ => rfl
theorem op_in_dK (hu : X.A.units + 65 < cLine) : OpR X (compareOp .In) (fun x y H Q => ∃ (a : Addr) (ws : List (Key × V)) (k : Key), x = kV k ∧ y = .ref a ∧ Rd H a (.dK ws) ∧ Q (.bl (valV ws k).isSome) H) := fun pins s σ H x y v u Q I rx ry ⟨a, ws, k, e1, e2, hd, q⟩ => by
  subst e1 e2
  obtain rfl : u = Value.ref a := ry
  exact d_in (by omega) I (.inl ⟨ws, k, hd, rfl, rfl⟩) rx fun s' I' => ⟨.bl _, H, I', rfl, q⟩
theorem op_notIn_dK (hu : X.A.units + 65 < cLine) : OpR X (compareOp .NotIn) (fun x y H Q => ∃ (a : Addr) (ws : List (Key × V)) (k : Key), x = kV k ∧ y = .ref a ∧ Rd H a (.dK ws) ∧ Q (.bl (!(valV ws k).isSome)) H) := fun pins s σ H x y v u Q I rx ry ⟨a, ws, k, e1, e2, hd, q⟩ => by
  subst e1 e2
  obtain rfl : u = Value.ref a := ry
  exact d_notIn (by omega) I (.inl ⟨ws, k, hd, rfl, rfl⟩) rx fun s' I' => ⟨.bl _, H, I', rfl, q⟩
theorem RpK.has {K : Fr_} {H : Hp} {ws : List (Key × V)} {kvs : List (D × D)} (r : RpK K H ws kvs) (k : Key) : (valV ws k).isSome = (getK kvs k).isSome := by
  rcases r.get k with ⟨h1, h2⟩ | ⟨v, d, h1, h2, _⟩ <;> rw [h1, h2] <;> rfl
theorem od_in (hu : X.A.units + 65 < cLine) : OpD X (compareOp .In) dIn := OpR.imp (OpR.or op_in_seq (OpR.or (op_inD hu) (OpR.or op_in_sign (op_in_dK hu)))) fun v u H Q ⟨x, y, z, h1, h2, e, k⟩ => by
  unfold dIn at e
  split at e
  · split at e
    · rename_i hc
      cases e
      obtain ⟨c1, c2⟩ := Bool.and_eq_true_iff.mp hc
      exact .inr (.inl ⟨_, _, h1.dp (shaped_noDict c1), h2.dp (shaped_noDict c2), c1, c2, k _ H (Same.refl H) (.bl _)⟩)
    · cases e
  · split at e
    · rename_i hc
      cases e
      obtain ⟨c1, c2⟩ := Bool.and_eq_true_iff.mp hc
      cases h1 with
      | ow h r => cases c1
      | od h r => cases c1
      | st h1 =>
        obtain ⟨p, xs, rfl, hp, r⟩ := h2.tuple
        refine .inl ⟨p, xs, rfl, .inr hp, flat_rp h1 c1, r.flat c2, ?_⟩
        rw [if_neg Bool.false_ne_true, RpA.inV h1 c1 r c2]
        exact k _ H (Same.refl H) (.bl _)
    · cases e
  · split at e
    · rename_i hc
      cases e
      refine .inr (.inr (.inl ⟨_, _, h1.str.trans (congrArg V.str (one_sign hc)), h2.str, ?_⟩))
      rw [show decide (_ ∈ _) = List.contains _ _ from (List.elem_eq_mem _ _).symm]
      exact k _ H (Same.refl H) (.bl _)
    · cases e
  · obtain ⟨q, g1, g2⟩ := Option.map_eq_some_iff.mp e
    cases g2
    obtain ⟨a, ws, rfl, hd, r⟩ := h2.dict
    refine .inr (.inr (.inr ⟨a, ws, q, h1.key g1, rfl, hd, ?_⟩))
    rw [r.has q]
    exact k _ H (Same.refl H) (.bl _)
  · cases e
theorem od_notin (hu : X.A.units + 65 < cLine) : OpD X (compareOp .NotIn) dNotIn := OpR.imp (OpR.or op_notIn_seq (OpR.or (op_notInD hu) (OpR.or op_notIn_sign (op_notIn_dK hu)))) fun v u H Q ⟨x, y, z, h1, h2, e0, k⟩ => by
  obtain ⟨b, e1, rfl⟩ := Option.map_eq_some_iff.mp e0
  obtain ⟨z', e, e3⟩ := Option.bind_eq_some_iff.mp e1
  have ez := isB_eq e3
  subst ez
  unfold dIn at e
  split at e
  · split at e
    · rename_i hc
      cases e
      obtain ⟨c1, c2⟩ := Bool.and_eq_true_iff.mp hc
      exact .inr (.inl ⟨_, _, h1.dp (shaped_noDict c1), h2.dp (shaped_noDict c2), c1, c2, k _ H (Same.refl H) (.bl _)⟩)
    · cases e
  · split at e
    · rename_i hc
      cases e
      obtain ⟨c1, c2⟩ := Bool.and_eq_true_iff.mp hc
      cases h1 with
      | ow h r => cases c1
      | od h r => cases c1
      | st h1 =>
        obtain ⟨p, xs, rfl, hp, r⟩ := h2.tuple
        refine .inl ⟨p, xs, rfl, .inr hp, flat_rp h1 c1, r.flat c2, ?_⟩
        rw [if_pos rfl, RpA.inV h1 c1 r c2]
        exact k _ H (Same.refl H) (.bl _)
    · cases e
  · split at e
    · rename_i hc
      cases e
      refine .inr (.inr (.inl ⟨_, _, h1.str.trans (congrArg V.str (one_sign hc)), h2.str, ?_⟩))
      rw [show decide (_ ∈ _) = List.contains _ _ from (List.elem_eq_mem _ _).symm]
      exact k _ H (Same.refl H) (.bl _)
    · cases e
  · obtain ⟨q, g1, g2⟩ := Option.map_eq_some_iff.mp e
    cases g2
    obtain ⟨a, ws, rfl, hd, r⟩ := h2.dict
    refine .inr (.inr (.inr ⟨a, ws, q, h1.key g1, rfl, hd, ?_⟩))
    rw [r.has q]
    exact k _ H (Same.refl H) (.bl _)
  · cases e
end
end DL

set_option Elab.async false
set_option linter.all false
set_option maxRecDepth 100000
set_option maxHeartbeats 2000000
set_option autoImplicit false
/-! ### sorted rows that are alike up to their first difference -/
namespace DL
open PySem PySem.W PySem.Calls PyProof.Rows
mutual
theorem reads_one {h : Heap} : ∀ (d d' : PyData) (v : Value) (as as' : List Addr), d.hasDict = false → Reads h v d as → Reads h v d' as' → d = d'
  | .none, _, _, _, _, _, r, r' => by cases r; cases r'; rfl
  | .bool _, _, _, _, _, _, r, r' => by cases r; cases r'; rfl
  | .int _, _, _, _, _, _, r, r' => by cases r; cases r'; rfl
  | .str _, _, _, _, _, _, r, r' => by cases r; cases r'; rfl
  | .list xs, d', _, _, _, n, r, r' => by
    cases r with
    | list h1 h2 h3 h4 =>
      cases r' with
      | list k1 k2 k3 k4 =>
        rw [h1] at k1; cases k1
        rw [h3] at k3; cases k3
        rw [reads_ones xs _ _ _ _ (by simpa [PyData.hasDict] using n) h4 k4]
      | tuple k1 k2 k3 k4 =>
        rw [h1] at k1; cases k1
        rw [h2] at k2; exact absurd k2 (by decide)
      | dict k1 k2 k3 k4 k5 =>
        rw [h1] at k1; cases k1
        rw [h2] at k2; exact absurd k2 (by decide)
  | .tuple xs, d', _, _, _, n, r, r' => by
    cases r with
    | tuple h1 h2 h3 h4 =>
      cases r' with
      | tuple k1 k2 k3 k4 =>
        rw [h1] at k1; cases k1
        rw [h3] at k3; cases k3
        rw [reads_ones xs _ _ _ _ (by simpa [PyData.hasDict] using n) h4 k4]
      | list k1 k2 k3 k4 =>
        rw [h1] at k1; cases k1
        rw [h2] at k2; exact absurd k2 (by decide)
      | dict k1 k2 k3 k4 k5 =>
        rw [h1] at k1; cases k1
        rw [h2] at k2; exact absurd k2 (by decide)
  | .dict _, _, _, _, _, n, _, _ => by simp [PyData.hasDict] at n
theorem reads_ones {h : Heap} : ∀ (xs ys : List PyData) (vs : List Value) (as as' : List Addr), PyData.hasDictAll xs = false → ReadsAll h vs xs as → ReadsAll h vs ys as' → xs = ys
  | [], _, _, _, _, _, r, r' => by cases r; cases r'; rfl
  | x :: xs, [], _, _, _, _, r, r' => by cases r'; cases r
  | x :: xs, y :: ys, _, _, _, n, r, r' => by
    simp [PyData.hasDictAll] at n
    cases r with
    | cons r1 r2 =>
      cases r' with
      | cons q1 q2 => rw [reads_one x y _ _ _ n.1 r1 q1, reads_ones xs ys _ _ _ n.2 r2 q2]
end
/-- alike up to the first difference -/
def cmpAll : List PyData → List PyData → Bool
  | x :: xs, y :: ys => alike x y && (!PyData.eqv x y || cmpAll xs ys)
  | _, _ => true
def cmpT : PyData → PyData → Bool
  | .tuple (x :: xs), .tuple (y :: ys) => cmpAll (x :: xs) (y :: ys)
  | _, _ => false
section
variable {prog : Program} {w : World} {A : Around} {s : Shared}
theorem katLex_cmp {b fin : Bool} {Q : Bool → Shared → Prop} : ∀ (xs ys : List PyData) (i : Nat) (vs ws : List Value) (as bs : List Addr), ReadsAll s.heap vs xs as → ReadsAll s.heap ws ys bs → cmpAll xs ys = true →
    A.units + min (PyData.depthAll xs) (PyData.depthAll ys) < cLine → (b = true → i = 0 → ∀ x r t, xs = x :: r → x ≠ .tuple t) → fin = decide (xs.length < ys.length) → Q (PyProof.Rows.lexLt itemOrd (keyToksAll xs) (keyToksAll ys)) s → KatLex prog w A b fin Q (vs.zip ws) i s
  | [], ys, i, _, _, as, bs, ra, rb, _, hu, hb, hf, hq => katLex_alike [] ys i _ _ as bs ra rb (by cases ys <;> rfl) hu hb hf hq
  | x :: xs, [], i, _, _, as, bs, ra, rb, _, hu, hb, hf, hq => katLex_alike (x :: xs) [] i _ _ as bs ra rb rfl hu hb hf hq
  | x :: xs, y :: ys, i, _, _, _, _, ra, rb, h, hu, hb, hf, hq => by
    obtain ⟨h1, h2⟩ := Bool.and_eq_true_iff.mp h
    have hf' : fin = decide (xs.length < ys.length) := by
      rw [hf]
      simp only [List.length_cons, Nat.add_lt_add_iff_right]
    cases ra with
    | cons r rs =>
      cases rb with
      | cons r' rs' =>
        rw [List.zip_cons_cons]
        refine kat_cons (eqAt_alike x y A s _ _ _ _ r r' h1 (SeqAt.room_head hu) prog w _ _ ?_)
        cases hx : PyData.eqv x y with
        | true =>
          rw [hx] at h2
          rw [dataLt_all_yes h1 hx] at hq
          exact kat_yes (katLex_cmp xs ys (i + 1) _ _ _ _ rs rs' (by simpa using h2) (SeqAt.room_tail hu) (fun _ hi => absurd hi (Nat.succ_ne_zero i)) hf' hq)
        | false =>
          rw [dataLt_all_no h1 hx] at hq
          refine kat_no (oneLt_alike (fun hbi t => ?_) r r' h1 (ne_none_of h1 hx) (SeqAt.room_head hu) hq)
          rw [Bool.and_eq_true] at hbi
          exact hb hbi.1 (by simpa using hbi.2) x xs t rfl
theorem kind_some {h : Heap} {ds : List PyData} (hnd : ∀ d ∈ ds, d.hasDict = false) {v : Value} {d : PyData} {as : List Addr} (hd : d ∈ ds) (r : Reads h v d as) : (dataKind h ds).keyOf v = some (keyToks d) := by
  have q : ∃ d, d ∈ ds ∧ ∃ as, Reads h v d as := ⟨d, hd, as, r⟩
  have e : (dataKind h ds).keyOf v = some (keyToks q.choose) := by
    show (open Classical in if q : ∃ d, d ∈ ds ∧ ∃ as, Reads h v d as then some (keyToks q.choose) else none) = _
    rw [dif_pos q]
  obtain ⟨h1, as', h2⟩ := q.choose_spec
  rw [e, reads_one _ _ _ _ _ (hnd _ h1) h2 r]
/-- all are tuples that can be compared -/
def AllCmp (ds : List PyData) : Prop := ∀ d ∈ ds, (∃ x r, d = .tuple (x :: r)) ∧ d.hasDict = false ∧ ∀ d' ∈ ds, cmpT d d' = true
theorem sorts_cmp {vs : List Value} {ds : List PyData} (e : EachIs (fun v d => ∃ as, Reads s.heap v d as) vs ds) (hal : AllCmp ds) (hu : ∀ d, d ∈ ds → A.units + d.depth < cLine) : SortsAt prog w A s (dataKind s.heap ds) vs := by
  have room : ∀ {d d' : PyData}, d ∈ ds → A.units + min d.depth d'.depth < cLine := fun {d d'} hd => Nat.lt_of_le_of_lt (Nat.add_le_add_left (Nat.min_le_left _ _) _) (hu d hd)
  have hnd : ∀ d ∈ ds, d.hasDict = false := fun d hd => (hal d hd).2.1
  refine ⟨fun v hv => ?_, ?_⟩
  · obtain ⟨d, hd, as, r⟩ := e.left v hv
    exact ⟨_, kind_some hnd hd r⟩
  · cases ds with
    | nil =>
      cases e
      exact ⟨general', fun E x y a b Q ha _ _ => (by
        obtain ⟨d, _, hd, _⟩ := dataKind_inv ha
        exact absurd hd (by simp)), fun h2 => absurd h2 (by simp)⟩
    | cons d₀ ds₀ =>
      obtain ⟨x₀, r₀, e₀⟩ := (hal d₀ (List.mem_cons_self ..)).1
      have hfirst : ∀ x r, PyData.tuple (x :: r) ∈ d₀ :: ds₀ → alike x x₀ = true := by
        intro x r hm
        have q := (hal _ hm).2.2 d₀ (List.mem_cons_self ..)
        rw [e₀] at q
        exact (Bool.and_eq_true_iff.mp q).1
      refine ⟨tuples' (dataType x₀ != Value.type "tuple"), ?_, fun h2 E Q hq => ?_⟩
      · intro E x y a b Q ha hb hq
        obtain ⟨d, as, hd, ra, rfl⟩ := dataKind_inv ha
        obtain ⟨d', as', hd', rb, rfl⟩ := dataKind_inv hb
        have hdd := (hal d hd).2.2 d' hd'
        have hroom := room (d' := d') hd
        obtain ⟨x1, r1, rfl⟩ := (hal d hd).1
        obtain ⟨x2, r2, rfl⟩ := (hal d' hd').1
        have hq' : Q (dataLt (.tuple (x1 :: r1)) (.tuple (x2 :: r2))) s := hq
        rw [dataLt_tuple] at hq'
        cases ra with
        | @tuple l o xs n _ _ h1 h2 h3 h4 =>
          cases rb with
          | @tuple l' o' xs' n' _ _ k1 k2 k3 k4 =>
            have n1 : xs.size = (x1 :: r1).length := by simpa using SeqAt.ReadsAll.length _ _ _ h4
            have n2 : xs'.size = (x2 :: r2).length := by simpa using SeqAt.ReadsAll.length _ _ _ k4
            refine kat_lt h1 h3 k1 k3 (katLex_cmp (x1 :: r1) (x2 :: r2) 0 _ _ _ _ h4 k4 hdd (by have q := SeqAt.room_in hroom; omega) (fun hb _ x r t ex => ?_) (by rw [n1, n2]) hq')
            obtain ⟨rfl, rfl⟩ := List.cons.inj ex
            have q := dataType_alike (hfirst _ _ hd)
            rw [← q] at hb
            exact dataType_tuple hb t
      · obtain ⟨fs, t1, t2, t3⟩ := each_katTups e fun d hd => (hal d hd).1
        refine kat_kind (T := dataType x₀) t1 (by omega) (fun f hf => ?_) (beq_self_eq_true _) hq
        obtain ⟨x, r, as, m1, m2⟩ := t3 f hf
        rw [← dataType_alike (hfirst x r m1)]
        exact looks_reads m2
theorem keys_cmp {h : Heap} {ds : List PyData} (hnd : ∀ d ∈ ds, d.hasDict = false) : ∀ {vs : List Value} {es : List PyData}, (∀ d ∈ es, d ∈ ds) → EachIs (fun v d => ∃ as, Reads h v d as) vs es → EachIs (fun v d => (dataKind h ds).keyOf v = some (keyToks d)) vs es
  | _, _, _, .nil => .nil
  | _, _, hs, .cons ⟨as, r⟩ t => .cons (kind_some hnd (hs _ List.mem_cons_self) r) (keys_cmp hnd (fun d hd => hs d (List.mem_cons_of_mem _ hd)) t)
/-- sorted(xs) of such rows -/
theorem sorted_cmp {E : Value → Shared → Prop} {l : Addr} {R : Value → PyData → Prop} {vs : List Value} {bs : List PyData} {Q : Value → Shared → Prop} (hl : s.heap.IsList l vs.toArray) (e : EachIs R vs bs) (er : EachIs (fun v b => ∃ as, Reads s.heap v b as) vs bs) (hal : AllCmp bs) (hL : bs.length ≤ sizeLine)
    (hu : ∀ b, b ∈ bs → A.units + 2 + b.depth < cLine) (h : ∀ out, out.length = bs.length → EachIs R out (bs.mergeSort (dataLe false fun d => d)) → Q (.ref (s.heap.objs.size + 1)) { s with heap := sortedAll s.heap vs (List.toArray out) }) :
    wpAny (model prog w) A (call (.builtin "sorted") [.ref l]) Q E s := by
  have er' : EachIs (fun v b => ∃ as, Reads (sortingHeap (copyHeap s.heap vs) (s.heap.objs.size + 1) vs) v b as) vs bs := er.mono fun _ _ ⟨as, r⟩ => ⟨as, PyProof.Rows.Reads.keeps (fun _ _ => sorting_copy_old) r⟩
  refine sorted_vals hl (sorts_cmp (s := { s with heap := sortingHeap (copyHeap s.heap vs) (s.heap.objs.size + 1) vs }) er' hal hu) (by rw [e.length]; exact hL)
    (h _ (by rw [sortVals_length false rfl]; exact e.length) ?_)
  exact sortVals_each (κ := dataKind _ bs) (fun b => keyToks b) e (keys_cmp (fun d hd => (hal d hd).2.1) (fun d hd => hd) er')
end
end DL

set_option Elab.async false
set_option linter.all false
set_option maxRecDepth 100000
set_option maxHeartbeats 2000000
set_option autoImplicit false
/-! ### sorted of whatever is collected -/
namespace DL
open PySem PySem.W PySem.Calls PyProof.Rows
section
variable {prog : Program} {w : World}
/-- the items of v, taken one behind the other, are vs; what was there stays -/
def Collects (prog : Program) (w : World) (A : Around) (s : Shared) (v : Value) (vs : List Value) : Prop :=
  ∀ (Q : List Value → Shared → Prop) (E : Value → Shared → Prop), (∀ (h' : Heap) (tk : Nat), (∀ b o, s.heap.get? b = some o → h'.get? b = some o) → Q vs { s with heap := h', toks := tk }) → wpAny (model prog w) A (collect v) Q E s
theorem collects_seq {A : Around} {s : Shared} {l : Addr} {T : String} {o : Obj} {items : Array Value} {n : Nat} (hT : T = "list" ∨ T = "tuple") (ho : s.heap.get? l = some o) (hc : o.cls = .type T) (hd : o.data = .seq items n) (hsz : items.size ≤ sizeLine) : Collects prog w A s (.ref l) items.toList :=
  fun Q E h => wpAny_collect_seq (prog := prog) (w := w) (A := A) (E := E) (Q := Q) l hT ho hc hd (fun h' k => h h' s.toks k) hsz
/-- the heap behind sorted(..) -/
def sortedOver (h : Heap) (vs : List Value) (out : Array Value) : Heap := sortedHeap (h.push (seqObj "list" vs.toArray 0)) h.objs.size vs out
theorem sortedOver_old {h : Heap} {vs : List Value} {out : Array Value} {b : Addr} {o : Obj} (hb : h.get? b = some o) : (sortedOver h vs out).get? b = some o := by
  have hlt : b < h.objs.size := Heap.lt_size hb
  unfold sortedOver
  rw [sortedHeap_old (Nat.ne_of_lt hlt) (by rw [size_push']; exact Nat.lt_succ_of_lt hlt)]
  exact Heap.get?_push_of_some _ hb
theorem sortedOver_at (h : Heap) (vs : List Value) (out : Array Value) : ∃ e, (sortedOver h vs out).get? h.objs.size = some (seqObj "list" out e) :=
  sortedHeap_at (n := 0) (Heap.get?_push_size _ rfl)
theorem sortingOver_old {h : Heap} {vs : List Value} {b : Addr} {o : Obj} (hb : h.get? b = some o) : (sortingHeap (h.push (seqObj "list" vs.toArray 0)) h.objs.size vs).get? b = some o :=
  sortingHeap_old (Nat.ne_of_lt (Heap.lt_size hb)) (Heap.get?_push_of_some _ hb)
theorem sorted_gen {A : Around} {E : Value → Shared → Prop} {s : Shared} {l : Addr} {vs : List Value} {Q : Value → Shared → Prop} {κ : Heap → PyProof.Rows.KeyKind} (hc : Collects prog w A.in1 s (.ref l) vs) (hL : vs.length ≤ sizeLine)
    (S : ∀ (h' : Heap) (tk : Nat), (∀ b o, s.heap.get? b = some o → h'.get? b = some o) → SortsAt prog w A.in1.in1 { s with heap := sortingHeap (h'.push (seqObj "list" vs.toArray 0)) h'.objs.size vs, toks := tk } (κ h') vs)
    (h : ∀ (h' : Heap) (tk : Nat), (∀ b o, s.heap.get? b = some o → h'.get? b = some o) → Q (.ref h'.objs.size) { s with heap := sortedOver h' vs (sortVals (κ h') false vs vs).toArray, toks := tk }) :
    wpAny (model prog w) A (call (.builtin "sorted") [.ref l]) Q E s := by
  refine call_function_entry_kw kind_sorted plain_sorted entry_sorted (args_sorted1 _) ?_
  unfold Builtin.«sorted»
  refine wpAny_bind (m := checkCount "sorted" 1 1 _) (wpAny_pure ?_)
  refine wpAny_bind (hc _ _ fun h' tk hk => ?_)
  refine wpAny_bind (wpAny_newList ?_ hL)
  refine wpAny_bind (wpAny_holding (wpAny_call_entry_kw slot_list_sort ⟨_, Heap.get?_push_size _ rfl, rfl⟩ entry_list_sort ?body (args_list_sort _)))
  case body =>
    show wpAny (model prog w) A.in1.in1 (Builtin.«list.sort» ⟨[.ref h'.objs.size], []⟩) _ _ _
    refine list_sort_vals (s := { s with heap := h'.push (seqObj "list" vs.toArray 0), toks := tk }) (n := 0) (Heap.get?_push_size _ rfl) (S h' tk hk) hL ?_
    exact ⟨_, rfl, wpAny_pure ⟨_, rfl, h h' tk hk⟩⟩
end
end DL

set_option Elab.async false
set_option linter.all false
set_option maxRecDepth 100000
set_option maxHeartbeats 2000000
set_option autoImplicit false
namespace DL
open PySem PySem.Spec PyProof.Rows L2
theorem RpWA.one {K : Fr_} {H : Hp} {vs : List V} {d : D} (h : RpWA K H vs [d]) : ∃ v, vs = [v] ∧ RpW K H v d := by
  cases h with | cons h r => cases r; exact ⟨_, rfl, h⟩
theorem RpWA.two {K : Fr_} {H : Hp} {vs : List V} {d e : D} (h : RpWA K H vs [d, e]) : ∃ v u, vs = [v, u] ∧ RpW K H v d ∧ RpW K H u e := by
  cases h with | cons h r => cases r with | cons h2 r => cases r; exact ⟨_, _, rfl, h, h2⟩
theorem RpWA.three {K : Fr_} {H : Hp} {vs : List V} {d e f : D} (h : RpWA K H vs [d, e, f]) : ∃ v u w, vs = [v, u, w] ∧ RpW K H v d ∧ RpW K H u e ∧ RpW K H w f := by
  cases h with | cons h r => cases r with | cons h2 r => cases r with | cons h3 r => cases r; exact ⟨_, _, _, rfl, h, h2, h3⟩
/-! len -/
def dLen : List D → Option D
  | [.list ds] => some (.int (ds.length : Int))
  | [.tuple ds] => some (.int (ds.length : Int))
  | [.str s] => if s.length ≤ sizeLine then some (.int (s.length : Int)) else none
  | [.dict kvs] => some (.int (kvs.length : Int))
  | _ => none
/-! max, min -/
/-- all can be compared -/
def allAlike (ds : List D) : Bool := ds.all fun x => !isN x && (decide (x.depth ≤ 64) && (!x.hasDict && ds.all fun y => PySem.W.alike x y))
def dMax : List D → Option D
  | [.int a, .int b] => some (.int (max a b))
  | [.int a, .int b, .int c] => some (.int (max (max a b) c))
  | [.list (x :: xs)] => if allAlike (x :: xs) then some (PySem.W.maxD x xs) else none
  | [.tuple (x :: xs)] => if allAlike (x :: xs) then some (PySem.W.maxD x xs) else none
  | _ => none
def dMin : List D → Option D
  | [.int a, .int b] => some (.int (min a b))
  | [.int a, .int b, .int c] => some (.int (min (min a b) c))
  | [.list (x :: xs)] => if allAlike (x :: xs) then some (PySem.W.minD x xs) else none
  | [.tuple (x :: xs)] => if allAlike (x :: xs) then some (PySem.W.minD x xs) else none
  | _ => none
def dSum : List D → Option D
  | [.list ds] => (intsD ds).map fun ns => .int ns.sum
  | _ => none
def boolsD : List D → Option (List Bool)
  | [] => some []
  | .bool i :: r => (boolsD r).map (i :: ·)
  | _ :: _ => none
theorem boolsD_eq : ∀ {ds : List D} {ns : List Bool}, boolsD ds = some ns → ds = ns.map .bool
  | [], _, h => by cases h; rfl
  | .bool i :: r, ns, h => by
    obtain ⟨z, e, rfl⟩ := Option.map_eq_some_iff.mp h
    rw [boolsD_eq e]
    rfl
  | .none :: _, _, h => by cases h
  | .int _ :: _, _, h => by cases h
  | .str _ :: _, _, h => by cases h
  | .list _ :: _, _, h => by cases h
  | .tuple _ :: _, _, h => by cases h
  | .dict _ :: _, _, h => by cases h
theorem boolsD_map (ns : List Bool) : boolsD (ns.map .bool) = some ns := by
  induction ns with
  | nil => rfl
  | cons n r ih => show (boolsD (r.map .bool)).map (n :: ·) = _; rw [ih]; rfl
theorem RpA.bools {K : Fr_} {H : Hp} : ∀ {vs : List V} {ns : List Bool}, RpA K H vs (ns.map .bool) → vs = ns.map V.bl
  | _, [], .nil => rfl
  | _, _ :: _, .cons h r => by
    cases h
    rw [RpA.bools r]
    rfl
def dAll : List D → Option D
  | [.list ds] => (boolsD ds).map fun ns => .bool (ns.all id)
  | _ => none
def dAny : List D → Option D
  | [.list ds] => (boolsD ds).map fun ns => .bool (ns.any id)
  | _ => none
def dAbs : List D → Option D
  | [.int i] => some (.int (if i < 0 then -i else i))
  | _ => none
def dInt : List D → Option D
  | [.int i] => some (.int i)
  | [.bool b] => some (.int (if b then 1 else 0))
  | _ => none
def dStr : List D → Option D
  | [.int i] => if i.natAbs.log2 < 1920 then some (.str (toString i)) else none
  | [.str x] => some (.str x)
  | _ => none
def dTuple : List D → Option D
  | [.list ds] => some (.tuple ds)
  | [.tuple ds] => some (.tuple ds)
  | _ => none
def dList : List D → Option (List D)
  | [.list ds] => some ds
  | [.tuple ds] => some ds
  | _ => none
def sortOk (ds : List D) : Bool := decide (ds.length ≤ 100000) && (allAlike ds && ((ds.all fun d => match d with | .tuple (_ :: _) => true | _ => false) || ds.all fun d => match d with | .tuple _ => false | _ => true))
def sortedD (ds : List D) : List D := ds.mergeSort (PySem.W.dataLe false fun d => d)
/-- alike up to their first difference -/
def sortOk2 (ds : List D) : Bool := decide (ds.length ≤ 100000) && ds.all fun d => (match d with | .tuple (_ :: _) => true | _ => false) && (!d.hasDict && (decide (d.depth ≤ 64) && ds.all fun d' => cmpT d d'))
def seqD : D → Option (List D)
  | .list ds => some ds
  | .tuple ds => some ds
  | _ => none
def dSorted : List D → Option (List D)
  | [d] => (seqD d).bind fun ds => if sortOk ds || sortOk2 ds then some (sortedD ds) else none
  | _ => none
def dRepr : List D → Option D
  | [d] => if d.showable && (decide (d.shown.length ≤ 1000000) && (!d.hasDict && decide (d.depth ≤ 64))) then some (.str d.shown) else none
  | _ => none
theorem allAlike_iff {ds : List D} (h : allAlike ds = true) : (∀ x ∈ ds, x ≠ .none ∧ x.depth ≤ 64 ∧ x.hasDict = false) ∧ ∀ x ∈ ds, ∀ y ∈ ds, PySem.W.alike x y = true := by
  have h' : ∀ x ∈ ds, (!isN x && (decide (x.depth ≤ 64) && (!x.hasDict && ds.all fun y => PySem.W.alike x y))) = true := List.all_eq_true.mp h
  refine ⟨fun x hx => ?_, fun x hx y hy => ?_⟩
  · obtain ⟨h1, h2⟩ := Bool.and_eq_true_iff.mp (h' x hx)
    obtain ⟨h3, h4⟩ := Bool.and_eq_true_iff.mp h2
    obtain ⟨h5, h6⟩ := Bool.and_eq_true_iff.mp h4
    exact ⟨isN_ne (by simpa using h1), of_decide_eq_true h3, by simpa using h5⟩
  · obtain ⟨h1, h2⟩ := Bool.and_eq_true_iff.mp (h' x hx)
    obtain ⟨h3, h4⟩ := Bool.and_eq_true_iff.mp h2
    obtain ⟨h5, h6⟩ := Bool.and_eq_true_iff.mp h4
    exact List.all_eq_true.mp h6 y hy
theorem depthAll_le : ∀ {ds : List D} {n : Nat}, (∀ x ∈ ds, x.depth ≤ n) → PyData.depthAll ds ≤ n
  | [], n, _ => Nat.zero_le _
  | d :: r, n, h => by
    rw [PyData.depthAll]
    exact Nat.max_le.mpr ⟨h d List.mem_cons_self, depthAll_le fun x hx => h x (List.mem_cons_of_mem _ hx)⟩
theorem foldl_mem {α : Type} (f : α → α → Bool) : ∀ (xs : List α) (x : α), xs.foldl (fun a y => if f a y then y else a) x ∈ x :: xs
  | [], x => List.mem_cons_self
  | y :: r, x => by
    show r.foldl _ (if f x y then y else x) ∈ _
    have h := foldl_mem f r (if f x y then y else x)
    rcases List.mem_cons.mp h with e | e
    · rw [e]
      split
      · exact List.mem_cons_of_mem _ List.mem_cons_self
      · exact List.mem_cons_self
    · exact List.mem_cons_of_mem _ (List.mem_cons_of_mem _ e)
theorem maxD_mem (x : D) (xs : List D) : PySem.W.maxD x xs ∈ x :: xs := foldl_mem (fun a y => PySem.W.dataLt a y) xs x
theorem minD_mem (x : D) (xs : List D) : PySem.W.minD x xs ∈ x :: xs := foldl_mem (fun a y => PySem.W.dataLt y a) xs x
section
variable {X : Cx}
theorem call_len_dK : CallR X (.builtin "len") (fun xs H Q => ∃ (a : Addr) (ws : List (Key × V)), xs = [V.ref a] ∧ Rd H a (.dK ws) ∧ Q (.int ws.length) H) := fun pins s σ H xs us Q I rs ⟨a, ws, ex, hd, q⟩ => by
  subst ex
  obtain ⟨u, rfl, ru⟩ := vals1 rs
  obtain rfl : u = Value.ref a := ru
  exact d_len I hd fun t s' I' => ⟨.int _, H, I', ⟨t, rfl⟩, q⟩
theorem RpK.length {K : Fr_} {H : Hp} {ws : List (Key × V)} {kvs : List (D × D)} (r : RpK K H ws kvs) : ws.length = kvs.length := by
  have := congrArg List.length r.1
  rwa [List.length_map, List.length_map] at this
theorem cd_len : CallD X (.builtin "len") dLen := CallR.imp (CallR.or call_len_seq (CallR.or call_len_str call_len_dK)) fun vs H Q ⟨ds, z, h, e, k⟩ => by
  unfold dLen at e
  split at e
  · cases e
    obtain ⟨v, rfl, h1⟩ := h.one
    obtain ⟨p, xs, rfl, hp, r⟩ := h1.list
    exact .inl ⟨p, xs, rfl, .inl hp, by rw [r.length]; exact k _ H (Same.refl H) (.int _)⟩
  · cases e
    obtain ⟨v, rfl, h1⟩ := h.one
    obtain ⟨p, xs, rfl, hp, r⟩ := h1.tuple
    exact .inl ⟨p, xs, rfl, .inr hp, by rw [r.length]; exact k _ H (Same.refl H) (.int _)⟩
  · split at e
    · rename_i hl
      cases e
      obtain ⟨v, rfl, h1⟩ := h.one
      exact .inr (.inl ⟨_, congrArg (fun z => [z]) h1.str, hl, k _ H (Same.refl H) (.int _)⟩)
    · cases e
  · cases e
    obtain ⟨v, rfl, h1⟩ := h.one
    obtain ⟨a, ws, rfl, hd, r⟩ := h1.dict
    exact .inr (.inr ⟨a, ws, rfl, hd, by rw [r.length]; exact k _ H (Same.refl H) (.int _)⟩)
  · cases e
theorem pick_data {pins : List (Addr × Obj)} {σ : St} {H : Hp} {s : Shared} {h' : Heap} {tk : Nat} {its : List Value} {xs : List V} {ds : List D} {i : Nat} {v : Value} {d : D} {bs : List Addr} (I : Inv X pins σ H s) (hk : ∀ b o, s.heap.get? b = some o → h'.get? b = some o) (rv : Vals xs its) (r : RpA X.K H xs ds) (hnd : ∀ x ∈ ds, x.hasDict = false)
    (hal : ∀ x ∈ ds, ∀ y ∈ ds, PySem.W.alike x y = true) (hm : d ∈ ds) (hv : its[i]? = some v) (hR : Reads h' v d bs) : ∃ w, RelV w v ∧ Rp X.K H w d ∧ Inv X pins σ H { s with heap := h', toks := tk } := by
  have I2 : Inv X pins σ H { s with heap := h', toks := tk } := I.kept (t' := tk) hk
  cases hx : xs[i]? with
  | none =>
    rw [rv.none_of hx] at hv
    cases hv
  | some w =>
    obtain ⟨u, hu, ru⟩ := rv.get hx
    rw [hv] at hu
    cases hu
    obtain ⟨d', hd', rd⟩ := r.get' hx
    obtain ⟨as, r2⟩ := Dp.reads I2 d' w v (rd.dp (hnd d' (List.mem_of_getElem? hd'))) ru
    have e : d' = d := PySem.W.alike_unique d' d v _ _ (hal d' (List.mem_of_getElem? hd') d hm) r2 hR
    subst e
    exact ⟨w, ru, rd, I2⟩
theorem nuMax_int (i j : Int) : nuMax2 (.int i) (.int j) = some (.int (max i j)) := by
  show some (if decide (i < j) = true then V.int j else V.int i) = _
  by_cases h : i < j
  · rw [if_pos (decide_eq_true h)]
    congr 2
    omega
  · rw [if_neg (by simpa using h)]
    congr 2
    omega
theorem nuMin_int (i j : Int) : nuMin2 (.int i) (.int j) = some (.int (min i j)) := by
  show some (if decide (j < i) = true then V.int j else V.int i) = _
  by_cases h : j < i
  · rw [if_pos (decide_eq_true h)]
    congr 2
    omega
  · rw [if_neg (by simpa using h)]
    congr 2
    omega
theorem cd_max (hc : X.calm = true) (hu : X.A.units + 100 < cLine) : CallD X (.builtin "max") dMax := by
  intro pins s σ H vs us Q I rs ⟨ds, z, h, e, k⟩
  unfold dMax at e
  split at e
  · cases e
    obtain ⟨v, u, rfl, h1, h2⟩ := h.two
    have e1 := h1.int
    have e2 := h2.int
    subst e1 e2
    exact call_max2Nu hc pins s σ H _ us Q I rs ⟨_, _, _, rfl, nuMax_int _ _, k _ H (Same.refl H) (.int _)⟩
  · cases e
    obtain ⟨v, u, w, rfl, h1, h2, h3⟩ := h.three
    have e1 := h1.int
    have e2 := h2.int
    have e3 := h3.int
    subst e1 e2 e3
    exact call_max3Nu hc pins s σ H _ us Q I rs ⟨_, _, _, _, rfl, (by
      unfold nuMax3
      rw [nuMax_int]
      exact nuMax_int _ _), k _ H (Same.refl H) (.int _)⟩
  · split at e
    · rename_i hal
      cases e
      obtain ⟨v, rfl, h1⟩ := h.one
      obtain ⟨p, xs, rfl, hp, r⟩ := h1.list
      obtain ⟨u, rfl, ru⟩ := vals1 rs
      cases ru
      obtain ⟨a1, a2⟩ := allAlike_iff hal
      obtain ⟨its, rv, pl, _⟩ := I.list hp
      obtain ⟨as, rr⟩ := Dp.readsAll I _ _ its (r.dp (noDictAll fun x hx => (a1 x hx).2.2)) rv
      refine PySem.W.max_list_data (I.ok.hd hc) pl.isList rr ⟨a2, fun x hx => (a1 x hx).1⟩ (by have := depthAll_le fun x hx => (a1 x hx).2.1; omega) fun i v h' tk bs hv hR hk => ?_
      obtain ⟨w, rw_, rd, I2⟩ := pick_data (tk := tk) I hk rv r (fun x hx => (a1 x hx).2.2) a2 (maxD_mem _ _) (by simpa using hv) hR
      exact ⟨w, H, I2, rw_, k w H (Same.refl H) rd⟩
    · cases e
  · split at e
    · rename_i hal
      cases e
      obtain ⟨v, rfl, h1⟩ := h.one
      obtain ⟨p, xs, rfl, hp, r⟩ := h1.tuple
      obtain ⟨u, rfl, ru⟩ := vals1 rs
      cases ru
      obtain ⟨a1, a2⟩ := allAlike_iff hal
      obtain ⟨its, rv, pl, _⟩ := I.tuple hp
      obtain ⟨as, rr⟩ := Dp.readsAll I _ _ its (r.dp (noDictAll fun x hx => (a1 x hx).2.2)) rv
      refine PySem.W.max_tuple_data (I.ok.hd hc) (show s.heap.IsTuple p its.toArray from pl) rr ⟨a2, fun x hx => (a1 x hx).1⟩ (by have := depthAll_le fun x hx => (a1 x hx).2.1; omega) fun i v h' tk bs hv hR hk => ?_
      obtain ⟨w, rw_, rd, I2⟩ := pick_data (tk := tk) I hk rv r (fun x hx => (a1 x hx).2.2) a2 (maxD_mem _ _) (by simpa using hv) hR
      exact ⟨w, H, I2, rw_, k w H (Same.refl H) rd⟩
    · cases e
  · cases e
theorem cd_min (hc : X.calm = true) (hu : X.A.units + 100 < cLine) : CallD X (.builtin "min") dMin := by
  intro pins s σ H vs us Q I rs ⟨ds, z, h, e, k⟩
  unfold dMin at e
  split at e
  · cases e
    obtain ⟨v, u, rfl, h1, h2⟩ := h.two
    have e1 := h1.int
    have e2 := h2.int
    subst e1 e2
    exact call_min2Nu hc pins s σ H _ us Q I rs ⟨_, _, _, rfl, nuMin_int _ _, k _ H (Same.refl H) (.int _)⟩
  · cases e
    obtain ⟨v, u, w, rfl, h1, h2, h3⟩ := h.three
    have e1 := h1.int
    have e2 := h2.int
    have e3 := h3.int
    subst e1 e2 e3
    exact call_min3Nu hc pins s σ H _ us Q I rs ⟨_, _, _, _, rfl, (by
      unfold nuMin3
      rw [nuMin_int]
      exact nuMin_int _ _), k _ H (Same.refl H) (.int _)⟩
  · split at e
    · rename_i hal
      cases e
      obtain ⟨v, rfl, h1⟩ := h.one
      obtain ⟨p, xs, rfl, hp, r⟩ := h1.list
      obtain ⟨u, rfl, ru⟩ := vals1 rs
      cases ru
      obtain ⟨a1, a2⟩ := allAlike_iff hal
      obtain ⟨its, rv, pl, _⟩ := I.list hp
      obtain ⟨as, rr⟩ := Dp.readsAll I _ _ its (r.dp (noDictAll fun x hx => (a1 x hx).2.2)) rv
      refine PySem.W.min_list_data (I.ok.hd hc) pl.isList rr ⟨a2, fun x hx => (a1 x hx).1⟩ (by have := depthAll_le fun x hx => (a1 x hx).2.1; omega) fun i v h' tk bs hv hR hk => ?_
      obtain ⟨w, rw_, rd, I2⟩ := pick_data (tk := tk) I hk rv r (fun x hx => (a1 x hx).2.2) a2 (minD_mem _ _) (by simpa using hv) hR
      exact ⟨w, H, I2, rw_, k w H (Same.refl H) rd⟩
    · cases e
  · split at e
    · rename_i hal
      cases e
      obtain ⟨v, rfl, h1⟩ := h.one
      obtain ⟨p, xs, rfl, hp, r⟩ := h1.tuple
      obtain ⟨u, rfl, ru⟩ := vals1 rs
      cases ru
      obtain ⟨a1, a2⟩ := allAlike_iff hal
      obtain ⟨its, rv, pl, _⟩ := I.tuple hp
      obtain ⟨as, rr⟩ := Dp.readsAll I _ _ its (r.dp (noDictAll fun x hx => (a1 x hx).2.2)) rv
      refine PySem.W.min_tuple_data (I.ok.hd hc) (show s.heap.IsTuple p its.toArray from pl) rr ⟨a2, fun x hx => (a1 x hx).1⟩ (by have := depthAll_le fun x hx => (a1 x hx).2.1; omega) fun i v h' tk bs hv hR hk => ?_
      obtain ⟨w, rw_, rd, I2⟩ := pick_data (tk := tk) I hk rv r (fun x hx => (a1 x hx).2.2) a2 (minD_mem _ _) (by simpa using hv) hR
      exact ⟨w, H, I2, rw_, k w H (Same.refl H) rd⟩
    · cases e
  · cases e
theorem cd_sum (hc : X.calm = true) : CallD X (.builtin "sum") dSum := CallR.imp (cr_sum hc) fun vs H Q ⟨ds, z, h, e, k⟩ => by
  unfold dSum at e
  split at e
  · obtain ⟨ns, e1, rfl⟩ := Option.map_eq_some_iff.mp e
    obtain ⟨v, rfl, h1⟩ := h.one
    obtain ⟨p, xs, rfl, hp, r⟩ := h1.list
    rw [ints_eq e1] at r
    rw [r.intsD] at hp
    exact ⟨p, ns, rfl, hp, k _ H (Same.refl H) (.int _)⟩
  · cases e
theorem cd_all (hc : X.calm = true) : CallD X (.builtin "all") dAll := CallR.imp (cr_all hc) fun vs H Q ⟨ds, z, h, e, k⟩ => by
  unfold dAll at e
  split at e
  · obtain ⟨ns, e1, rfl⟩ := Option.map_eq_some_iff.mp e
    obtain ⟨v, rfl, h1⟩ := h.one
    obtain ⟨p, xs, rfl, hp, r⟩ := h1.list
    rw [boolsD_eq e1] at r
    rw [r.bools] at hp
    exact ⟨p, ns, rfl, hp, k _ H (Same.refl H) (.bl _)⟩
  · cases e
theorem cd_any (hc : X.calm = true) : CallD X (.builtin "any") dAny := CallR.imp (cr_any hc) fun vs H Q ⟨ds, z, h, e, k⟩ => by
  unfold dAny at e
  split at e
  · obtain ⟨ns, e1, rfl⟩ := Option.map_eq_some_iff.mp e
    obtain ⟨v, rfl, h1⟩ := h.one
    obtain ⟨p, xs, rfl, hp, r⟩ := h1.list
    rw [boolsD_eq e1] at r
    rw [r.bools] at hp
    exact ⟨p, ns, rfl, hp, k _ H (Same.refl H) (.bl _)⟩
  · cases e
theorem cd_abs : CallD X (.builtin "abs") dAbs := CallR.imp call_abs fun vs H Q ⟨ds, z, h, e, k⟩ => by
  unfold dAbs at e
  split at e
  · cases e
    obtain ⟨v, rfl, h1⟩ := h.one
    exact ⟨_, congrArg (fun z => [z]) h1.int, k _ H (Same.refl H) (.int _)⟩
  · cases e
theorem cd_int : CallD X (.type "int") dInt := CallR.imp call_int1 fun vs H Q ⟨ds, z, h, e, k⟩ => by
  unfold dInt at e
  split at e
  · cases e
    obtain ⟨v, rfl, h1⟩ := h.one
    exact .inl ⟨_, congrArg (fun z => [z]) h1.int, k _ H (Same.refl H) (.int _)⟩
  · cases e
    obtain ⟨v, rfl, h1⟩ := h.one
    exact .inr ⟨_, congrArg (fun z => [z]) h1.bool, k _ H (Same.refl H) (.int _)⟩
  · cases e
theorem cd_str : CallD X (.type "str") dStr := CallR.imp (CallR.or call_str_int SkE.call_str_str) fun vs H Q ⟨ds, z, h, e, k⟩ => by
  unfold dStr at e
  split at e
  · split at e
    · rename_i hl
      cases e
      obtain ⟨v, rfl, h1⟩ := h.one
      exact .inl ⟨_, congrArg (fun z => [z]) h1.int, hl, k _ H (Same.refl H) (.str _)⟩
    · cases e
  · cases e
    obtain ⟨v, rfl, h1⟩ := h.one
    exact .inr ⟨_, congrArg (fun z => [z]) h1.str, k _ H (Same.refl H) (.str _)⟩
  · cases e
theorem cd_tuple : CallD X (.type "tuple") dTuple := CallR.imp call_tuple_of' fun vs H Q ⟨ds, z, h, e, k⟩ => by
  unfold dTuple at e
  split at e
  · cases e
    obtain ⟨v, rfl, h1⟩ := h.one
    obtain ⟨p, xs, rfl, hp, r⟩ := h1.list
    exact ⟨p, xs, rfl, .inl ⟨hp, fun l u hl hu => k _ _ (Same.new hl) (.tup (.of hu upd_same) (r.mono (.of_same (Same.new hl))))⟩⟩
  · cases e
    obtain ⟨v, rfl, h1⟩ := h.one
    obtain ⟨p, xs, rfl, hp, r⟩ := h1.tupleP
    exact ⟨p, xs, rfl, .inr ⟨hp.sq, k _ H (Same.refl H) (.tup hp r)⟩⟩
  · cases e
theorem cf_list : CallF X (.type "list") dList := CallR.imp call_list_of fun vs H Q ⟨ds, z, h, e, k⟩ => by
  unfold dList at e
  split at e
  · cases e
    obtain ⟨v, rfl, h1⟩ := h.one
    obtain ⟨p, xs, rfl, hp, r⟩ := h1.list
    exact ⟨p, xs, rfl, .inl hp, fun l hl => k _ _ _ hl (Same.new hl) upd_same (r.mono (.of_same (Same.new hl)))⟩
  · cases e
    obtain ⟨v, rfl, h1⟩ := h.one
    obtain ⟨p, xs, rfl, hp, r⟩ := h1.tuple
    exact ⟨p, xs, rfl, .inr hp, fun l hl => k _ _ _ hl (Same.new hl) upd_same (r.mono (.of_same (Same.new hl)))⟩
  · cases e
end
end DL

set_option Elab.async false
set_option linter.all false
set_option maxRecDepth 100000
set_option maxHeartbeats 2000000
set_option autoImplicit false
namespace DL
open PySem PySem.Spec PyProof.Rows L2
section
variable {X : Cx} {c : FC} {T : Type} {G : T → Env_}
/-! ### the same where held lists change on the way -/
def liftX {α : Type} (m : T → Option α) : T → Option (α × T) := fun t => (m t).map fun d => (d, t)
theorem liftX_eq {α : Type} {m : T → Option α} {t t' : T} {d : α} (h : liftX m t = some (d, t')) : m t = some d ∧ t' = t := by
  obtain ⟨x, e1, e2⟩ := Option.map_eq_some_iff.mp h
  cases e2
  exact ⟨e1, rfl⟩
theorem dx_lift {e : Expr} {m : T → Option D} (h : ∀ t, DE X c (G t) e (m t)) : DX X c G e (liftX m) := fun t d t' hd σ H Q E k => by
  obtain ⟨e1, rfl⟩ := liftX_eq hd
  exact h _ d e1 σ H Q E fun v H' s r => k v H' (E.same s) (.of_same E s) r
theorem dxf_lift {e : Expr} {m : T → Option (List D)} (h : ∀ t, DF X c (G t) e (m t)) : DXF X c G e (liftX m) := fun t d t' hd σ H Q E k => by
  obtain ⟨e1, rfl⟩ := liftX_eq hd
  exact h _ d e1 σ H Q E fun a H' xs hn s ha r => k a H' xs hn (E.same s) (.of_same E s) ha r
theorem dxt_lift {e : Expr} {m : T → Option Bool} (h : ∀ t, DT X c (G t) e (m t)) : DXT X c G e (liftX m) := fun t d t' hd σ H Q E k => by
  obtain ⟨e1, rfl⟩ := liftX_eq hd
  exact h _ d e1 σ H Q E fun H' s => k H' (E.same s) (.of_same E s)
theorem dxa_lift {es : List Expr} {m : T → Option (List D)} (h : ∀ t, DA X c (G t) es (m t)) : DXA X c G es (liftX m) := fun t d t' hd σ H Q E k => by
  obtain ⟨e1, rfl⟩ := liftX_eq hd
  exact h _ d e1 σ H Q E fun v H' s r => k v H' (E.same s) (.of_same E s) r
theorem dxf_frz {e : Expr} {m : T → Option (List D × T)} (h : DXF X c G e m) : DX X c G e (fun t => (m t).map fun p => (.list p.1, p.2)) := fun t d t' hd σ H Q E k => by
  obtain ⟨⟨ds, t2⟩, e1, e2⟩ := Option.map_eq_some_iff.mp hd
  have e3 : d = .list ds := (congrArg Prod.fst e2).symm
  have e4 : t2 = t' := congrArg Prod.snd e2
  subst e3 e4
  refine sE_of (pe_frz (pe_s e)) ?_
  refine h t ds t2 e1 σ H _ E fun a H' xs hn E' s ha r => ⟨a, _, rfl, ha, trivial, fun o => ?_⟩
  have hno : ¬ Owns (G t2) σ a := fun q => E.notOwn hn (s.2 a q)
  have m' : Mono H' (upd H' a (.frz o (.lst xs))) := by
    refine ⟨fun b zs hb => ?_, fun b o' u hb => ?_⟩
    · rw [upd_ne (ne_of hb ha (by intro z; cases z))]
      exact hb
    · rw [upd_ne (ne_of hb ha (by intro z; cases z))]
      exact hb
  have keep : ∀ b u, H' b = some u → b ≠ a → upd H' a (.frz o (.lst xs)) b = some u := fun b u hb hne => by
    rw [upd_ne hne]
    exact hb
  have E'' : EnvOk X.K c σ (upd H' a (.frz o (.lst xs))) (G t2) := by
    refine ⟨fun i q hq => ?_, E'.apart, fun b u hb hm => keep b u (E'.pres b u hb hm) fun z => ?_, E'.new, E'.pins, E'.len⟩
    · exact (E'.cells i q hq).keep m' fun ho b u e1 hb => keep b u hb fun q' => hno ⟨i, q, hq, ho, q' ▸ e1⟩
    · rw [z, E.fresh0 hn] at hb
      cases hb
  refine k _ _ E'' ⟨fun b u hb hw => keep b u (s.1 b u hb hw) fun z => ?_, s.2, fun b hb => ?_⟩ (.lst (.inl ⟨o, upd_same⟩) (r.mono m'))
  · rw [z, hn] at hb
    cases hb
  · by_cases e3 : b = a
    · rw [e3, upd_same]
      intro z
      cases z
    · rw [upd_ne e3]
      exact s.3 b hb
/-! arguments -/
def consX (m : T → Option (D × T)) (ms : T → Option (List D × T)) : T → Option (List D × T) := fun t => (m t).bind fun p => (ms p.2).map fun q => (p.1 :: q.1, q.2)
theorem dxa_nil : DXA X c G [] (fun t => some ([], t)) := fun t ds t' hd σ H Q E k => by
  cases hd
  exact k [] H E (.refl E) .nil
theorem dxa_cons {e : Expr} {es : List Expr} {m : T → Option (D × T)} {ms : T → Option (List D × T)} (h : DX X c G e m) (hs : DXA X c G es ms) : DXA X c G (e :: es) (consX m ms) := fun t ds t' hd σ H Q E k => by
  obtain ⟨⟨x, t1⟩, e1, e2⟩ := Option.bind_eq_some_iff.mp hd
  obtain ⟨⟨xs, t2⟩, e3, e4⟩ := Option.map_eq_some_iff.mp e2
  cases e4
  exact h t x t1 e1 σ H _ E fun v H1 E1 s1 r1 => hs t1 xs _ e3 σ H1 _ E1 fun vs H2 E2 s2 r2 => k _ _ E2 (s1.trans s2) (.cons (r1.mono (s2.mono E1)) r2)
/-! operators -/
def binX (g : D → D → Option D) (a b : T → Option (D × T)) : T → Option (D × T) := fun t => (a t).bind fun p => (b p.2).bind fun q => (g p.1 q.1).map fun z => (z, q.2)
theorem dx_op {op : Operator} {g : D → D → Option D} {a b : Expr} {ma mb : T → Option (D × T)} {pos : Pos} (ho : OpD X (binaryOp op) g) (ha : DX X c G a ma) (hb : DX X c G b mb) : DX X c G (.BinOp a op b pos) (binX g ma mb) := fun t d t' hd σ H Q E k => by
  obtain ⟨⟨x, t1⟩, e1, e2⟩ := Option.bind_eq_some_iff.mp hd
  obtain ⟨⟨y, t2⟩, e3, e4⟩ := Option.bind_eq_some_iff.mp e2
  obtain ⟨z, e5, e6⟩ := Option.map_eq_some_iff.mp e4
  cases e6
  refine sE_of (pe_op ho (pe_s a) (pe_s b)) ?_
  exact ha t x t1 e1 σ H _ E fun v H1 E1 s1 r1 => hb t1 y _ e3 σ H1 _ E1 fun u H2 E2 s2 r2 => ⟨x, y, d, .st (r1.mono (s2.mono E1)), .st r2, e5, fun w H3 s3 r3 => k w H3 (E2.same s3) ((s1.trans s2).trans (.of_same E2 s3)) r3⟩
theorem dx_cmp {op : CmpOp} {g : D → D → Option D} {a b : Expr} {ma mb : T → Option (D × T)} {pos : Pos} (ho : OpD X (compareOp op) g) (ha : DX X c G a ma) (hb : DX X c G b mb) (hm : behindInMarks op b = false := by first | rfl | exact nomark _) : DX X c G (.Compare a [op] [b] pos) (binX g ma mb) := fun t d t' hd σ H Q E k => by
  obtain ⟨⟨x, t1⟩, e1, e2⟩ := Option.bind_eq_some_iff.mp hd
  obtain ⟨⟨y, t2⟩, e3, e4⟩ := Option.bind_eq_some_iff.mp e2
  obtain ⟨z, e5, e6⟩ := Option.map_eq_some_iff.mp e4
  cases e6
  refine sE_of (pe_cmpR ho (pe_s a) (pe_s b) hm) ?_
  exact ha t x t1 e1 σ H _ E fun v H1 E1 s1 r1 => hb t1 y _ e3 σ H1 _ E1 fun u H2 E2 s2 r2 => ⟨x, y, d, .st (r1.mono (s2.mono E1)), .st r2, e5, fun w H3 s3 r3 => k w H3 (E2.same s3) ((s1.trans s2).trans (.of_same E2 s3)) r3⟩
def isBX (m : T → Option (D × T)) : T → Option (Bool × T) := fun t => (m t).bind fun p => (isB p.1).map fun b => (b, p.2)
theorem dxt_cmp {op : CmpOp} {g : D → D → Option D} {a b : Expr} {ma mb : T → Option (D × T)} {pos : Pos} (ho : OpD X (compareOp op) g) (ha : DX X c G a ma) (hb : DX X c G b mb) (hm : behindInMarks op b = false := by first | rfl | exact nomark _) : DXT X c G (.Compare a [op] [b] pos) (isBX (binX g ma mb)) := fun t d t' hd σ H Q E k => by
  obtain ⟨⟨w, t3⟩, e0, e00⟩ := Option.bind_eq_some_iff.mp hd
  obtain ⟨bb, e7, e8⟩ := Option.map_eq_some_iff.mp e00
  cases e8
  have ew := isB_eq e7
  have ew' : w = .bool d := ew
  subst ew'
  obtain ⟨⟨x, t1⟩, e1, e2⟩ := Option.bind_eq_some_iff.mp e0
  obtain ⟨⟨y, t2⟩, e3, e4⟩ := Option.bind_eq_some_iff.mp e2
  obtain ⟨z, e5, e6⟩ := Option.map_eq_some_iff.mp e4
  cases e6
  refine sT_of (pt_cmpR ho (pe_s a) (pe_s b) hm) ?_
  exact ha t x t1 e1 σ H _ E fun v H1 E1 s1 r1 => hb t1 y _ e3 σ H1 _ E1 fun u H2 E2 s2 r2 => ⟨x, y, _, .st (r1.mono (s2.mono E1)), .st r2, e5, fun w H3 s3 r3 => ⟨d, RpW.bool (.st r3), k H3 (E2.same s3) ((s1.trans s2).trans (.of_same E2 s3))⟩⟩
theorem dxt_val {e : Expr} {m : T → Option (D × T)} (h : DX X c G e m) (he : ∀ whole, isTrue e X.env whole = (do let v ← whole; standAt e.pos; holding [v] (truthy v)) := by intro _; rfl) : DXT X c G e (isBX m) := fun t d t' hd σ H Q E k => by
  obtain ⟨⟨w, t3⟩, e0, e00⟩ := Option.bind_eq_some_iff.mp hd
  obtain ⟨bb, e7, e8⟩ := Option.map_eq_some_iff.mp e00
  cases e8
  have ew' : w = .bool d := isB_eq e7
  subst ew'
  exact sT_of (pt_val (pe_s e) he) (h t _ _ e0 σ H _ E fun v H' E' s r => ⟨d, RpW.bool (.st r), k H' E' s⟩)
theorem DXTw.t {e : Expr} {m : T → Option (Bool × T)} (h : DXTw X c G e m) : DXT X c G e m := fun t d t' hd σ H Q E k => fun pins s I => h t d t' hd σ H Q E k _ pins s I
def andTX (a b : T → Option (Bool × T)) : T → Option (Bool × T) := fun t => (a t).bind fun p => if p.1 then b p.2 else some (false, p.2)
def orTX (a b : T → Option (Bool × T)) : T → Option (Bool × T) := fun t => (a t).bind fun p => if p.1 then some (true, p.2) else b p.2
theorem dxw_and1 {a : Expr} {ma : T → Option (Bool × T)} {pos : Pos} (h : DXT X c G a ma) : DXTw X c G (.BoolOp .And [a] pos) ma := fun t d t' hd σ H Q E k => sW_of (pw_and1 (pt_s a)) (h t d t' hd σ H _ E k)
theorem dxw_or1 {a : Expr} {ma : T → Option (Bool × T)} {pos : Pos} (h : DXT X c G a ma) : DXTw X c G (.BoolOp .Or [a] pos) ma := fun t d t' hd σ H Q E k => sW_of (pw_or1 (pt_s a)) (h t d t' hd σ H _ E k)
theorem dxw_and {a b : Expr} {rest : List Expr} {ma mb : T → Option (Bool × T)} {pos : Pos} (h : DXT X c G a ma) (hb : DXTw X c G (.BoolOp .And (b :: rest) pos) mb) : DXTw X c G (.BoolOp .And (a :: b :: rest) pos) (andTX ma mb) := fun t d t' hd σ H Q E k => by
  obtain ⟨⟨x, t1⟩, e1, e2⟩ := Option.bind_eq_some_iff.mp hd
  refine sW_of (pw_and (pt_s a) (pw_s _)) (h t x t1 e1 σ H _ E fun H1 E1 s1 => ?_)
  cases x with
  | true => exact iteT (hb t1 d t' e2 σ H1 _ E1 fun H2 E2 s2 => k H2 E2 (s1.trans s2))
  | false =>
    rw [if_neg Bool.false_ne_true] at e2
    cases e2
    exact iteF (k H1 E1 s1)
theorem dxw_or {a b : Expr} {rest : List Expr} {ma mb : T → Option (Bool × T)} {pos : Pos} (h : DXT X c G a ma) (hb : DXTw X c G (.BoolOp .Or (b :: rest) pos) mb) : DXTw X c G (.BoolOp .Or (a :: b :: rest) pos) (orTX ma mb) := fun t d t' hd σ H Q E k => by
  obtain ⟨⟨x, t1⟩, e1, e2⟩ := Option.bind_eq_some_iff.mp hd
  refine sW_of (pw_or (pt_s a) (pw_s _)) (h t x t1 e1 σ H _ E fun H1 E1 s1 => ?_)
  cases x with
  | true =>
    rw [if_pos rfl] at e2
    cases e2
    exact iteT (k H1 E1 s1)
  | false => exact iteF (hb t1 d t' e2 σ H1 _ E1 fun H2 E2 s2 => k H2 E2 (s1.trans s2))
def notTX (a : T → Option (Bool × T)) : T → Option (Bool × T) := fun t => (a t).map fun p => (!p.1, p.2)
theorem dxt_not {a : Expr} {ma : T → Option (Bool × T)} {pos : Pos} (h : DXT X c G a ma) : DXT X c G (.UnaryOp .Not a pos) (notTX ma) := fun t d t' hd σ H Q E k => by
  obtain ⟨⟨x, t1⟩, e1, e2⟩ := Option.map_eq_some_iff.mp hd
  cases e2
  exact sT_of (pt_not (pt_s a)) (h t x _ e1 σ H _ E fun H1 E1 s1 => k H1 E1 s1)
def andVX (a b : T → Option (D × T)) : T → Option (D × T) := fun t => (a t).bind fun p => (isB p.1).bind fun x => if x then b p.2 else some (.bool false, p.2)
theorem dx_one {op : BoolOp} {a : Expr} {ma : T → Option (D × T)} {pos : Pos} (h : DX X c G a ma) : DX X c G (.BoolOp op [a] pos) ma := fun t d t' hd σ H Q E k => sE_of (pe_one (pe_s a)) (h t d t' hd σ H Q E k)
theorem dx_and {a b : Expr} {rest : List Expr} {ma mb : T → Option (D × T)} {pos : Pos} (h : DX X c G a ma) (hb : DX X c G (.BoolOp .And (b :: rest) pos) mb) : DX X c G (.BoolOp .And (a :: b :: rest) pos) (andVX ma mb) := fun t d t' hd σ H Q E k => by
  obtain ⟨⟨z, t1⟩, e1, e2⟩ := Option.bind_eq_some_iff.mp hd
  obtain ⟨x, e3, e4⟩ := Option.bind_eq_some_iff.mp e2
  have ez : z = .bool x := isB_eq e3
  subst ez
  refine sE_of (pe_and (pe_s a) (pe_s _)) (h t _ t1 e1 σ H _ E fun v H1 E1 s1 r1 => ⟨x, RpW.bool (.st r1), ?_⟩)
  cases x with
  | true => exact iteT (hb t1 d t' e4 σ H1 _ E1 fun w H2 E2 s2 r2 => k w H2 E2 (s1.trans s2) r2)
  | false =>
    rw [if_neg Bool.false_ne_true] at e4
    cases e4
    exact iteF (k _ H1 E1 s1 (.bl false))
/-! a if t else b -/
def iteX {α : Type} (t : T → Option (Bool × T)) (a b : T → Option (α × T)) : T → Option (α × T) := fun s => (t s).bind fun p => if p.1 then a p.2 else b p.2
theorem dx_ite {e a b : Expr} {mt : T → Option (Bool × T)} {ma mb : T → Option (D × T)} {pos : Pos} (ht : DXT X c G e mt) (ha : DX X c G a ma) (hb : DX X c G b mb) : DX X c G (.IfExp e a b pos) (iteX mt ma mb) := fun t d t' hd σ H Q E k => by
  obtain ⟨⟨x, t1⟩, e1, e2⟩ := Option.bind_eq_some_iff.mp hd
  refine sE_of (pe_ifExp (pt_s e) (pe_s a) (pe_s b)) (ht t x t1 e1 σ H _ E fun H1 E1 s1 => ?_)
  cases x with
  | true => exact iteT (ha t1 d t' e2 σ H1 _ E1 fun w H2 E2 s2 r2 => k w H2 E2 (s1.trans s2) r2)
  | false => exact iteF (hb t1 d t' e2 σ H1 _ E1 fun w H2 E2 s2 r2 => k w H2 E2 (s1.trans s2) r2)
theorem dxf_ite {e a b : Expr} {mt : T → Option (Bool × T)} {ma mb : T → Option (List D × T)} {pos : Pos} (ht : DXT X c G e mt) (ha : DXF X c G a ma) (hb : DXF X c G b mb) : DXF X c G (.IfExp e a b pos) (iteX mt ma mb) := fun t d t' hd σ H Q E k => by
  obtain ⟨⟨x, t1⟩, e1, e2⟩ := Option.bind_eq_some_iff.mp hd
  refine sE_of (pe_ifExp (pt_s e) (pe_s a) (pe_s b)) (ht t x t1 e1 σ H _ E fun H1 E1 s1 => ?_)
  cases x with
  | true => exact iteT (ha t1 d t' e2 σ H1 _ E1 fun a H2 xs hn E2 s2 h2 r2 => k a H2 xs (s1.free E hn) E2 (s1.trans s2) h2 r2)
  | false => exact iteF (hb t1 d t' e2 σ H1 _ E1 fun a H2 xs hn E2 s2 h2 r2 => k a H2 xs (s1.free E hn) E2 (s1.trans s2) h2 r2)
/-! displays, calls, items -/
def lenOkX (m : T → Option (List D × T)) : T → Option (List D × T) := fun t => (m t).bind fun p => if p.1.length ≤ 100000 then some p else none
def tupX (m : T → Option (List D × T)) : T → Option (D × T) := fun t => (lenOkX m t).map fun p => (.tuple p.1, p.2)
theorem dx_tup {es : List Expr} {m : T → Option (List D × T)} {x1 : Nat} {pos : Pos} (h : DXA X c G es m) (hs : NoStar X es := by exact ⟨rfl, rfl, rfl, rfl, trivial⟩) : DX X c G (.Tuple es x1 pos) (tupX m) := fun t d t' hd σ H Q E k => by
  obtain ⟨⟨ds, t1⟩, e0, e00⟩ := Option.map_eq_some_iff.mp hd
  cases e00
  obtain ⟨⟨ds', t2⟩, e1, e2⟩ := Option.bind_eq_some_iff.mp e0
  split at e2
  · rename_i hl
    cases e2
    refine sE_of (pe_tup' (pa_s hs)) (h t _ _ e1 σ H _ E fun vs H1 E1 s1 r1 => ⟨?_, fun p u hp hu => ?_⟩)
    · rw [r1.length]
      exact Nat.le_trans hl (by decide)
    · exact k _ _ (E1.same (Same.new hp)) (s1.trans (.of_same E1 (Same.new hp))) (.tup (.of hu upd_same) (r1.mono (.of_same (Same.new hp))))
  · cases e2
theorem dxf_lst {es : List Expr} {m : T → Option (List D × T)} {pos : Pos} (h : DXA X c G es m) (hs : NoStar X es := by exact ⟨rfl, rfl, rfl, rfl, trivial⟩) : DXF X c G (.List es pos) (lenOkX m) := fun t d t' hd σ H Q E k => by
  obtain ⟨⟨ds', t2⟩, e1, e2⟩ := Option.bind_eq_some_iff.mp hd
  split at e2
  · rename_i hl
    cases e2
    refine sE_of (pe_lst (pa_s hs)) (h t _ _ e1 σ H _ E fun vs H1 E1 s1 r1 => ⟨?_, fun p hp => ?_⟩)
    · rw [r1.length]
      exact Nat.le_trans hl (by decide)
    · exact k _ _ _ (s1.free E hp) (E1.same (Same.new hp)) (s1.trans (.of_same E1 (Same.new hp))) upd_same (r1.mono (.of_same (Same.new hp)))
  · cases e2
def appX {α : Type} (g : List D → Option α) (m : T → Option (List D × T)) : T → Option (α × T) := fun t => (m t).bind fun p => (g p.1).map fun z => (z, p.2)
theorem dx_callB {x : Str} {id : String} {g : List D → Option D} {e : Expr} {es : List Expr} {m : T → Option (List D × T)} {p pos : Pos} (hc : CallD X (.builtin id) g) (hm : X.mg x = none) (ha : DXA X c G (e :: es) m) (hg : Gl X x := by rfl) (hv : bootBuiltins x = some (.builtin id) := by decide +kernel)
    (hs : NoStar X (e :: es) := by exact ⟨rfl, rfl, rfl, rfl, trivial⟩) (hn : x ≠ "__name__" := by decide) (hdb : (x == ("__debug__" : Str)) = false := by decide) (hpl : (backTo pos (starEach es X.env)).any (·.1) = false := by rfl) : DX X c G (.Call (.Name x p) (e :: es) [] pos) (appX g m) := fun t d t' hd σ H Q E k => by
  obtain ⟨⟨ds, t1⟩, e1, e2⟩ := Option.bind_eq_some_iff.mp hd
  obtain ⟨z, e3, e4⟩ := Option.map_eq_some_iff.mp e2
  cases e4
  refine sE_of (pe_callB hc hg hm hv (pa_s hs) hn hdb hs.1 hpl) ?_
  exact ha t ds _ e1 σ H _ E fun vs H1 E1 s1 r1 => ⟨ds, d, .of r1, e3, fun w H2 s2 r2 => k w H2 (E1.same s2) (s1.trans (.of_same E1 s2)) r2⟩
theorem dx_callT {x : Str} {id : String} {g : List D → Option D} {e : Expr} {es : List Expr} {m : T → Option (List D × T)} {p pos : Pos} (hc : CallD X (.type id) g) (hm : X.mg x = none) (ha : DXA X c G (e :: es) m) (hg : Gl X x := by rfl) (hv : bootBuiltins x = some (.type id) := by decide +kernel)
    (hs : NoStar X (e :: es) := by exact ⟨rfl, rfl, rfl, rfl, trivial⟩) (hn : x ≠ "__name__" := by decide) (hdb : (x == ("__debug__" : Str)) = false := by decide) (hpl : (backTo pos (starEach es X.env)).any (·.1) = false := by rfl) : DX X c G (.Call (.Name x p) (e :: es) [] pos) (appX g m) := fun t d t' hd σ H Q E k => by
  obtain ⟨⟨ds, t1⟩, e1, e2⟩ := Option.bind_eq_some_iff.mp hd
  obtain ⟨z, e3, e4⟩ := Option.map_eq_some_iff.mp e2
  cases e4
  refine sE_of (pe_callTy hc hg hm hv (pa_s hs) hn hdb hs.1 hpl) ?_
  exact ha t ds _ e1 σ H _ E fun vs H1 E1 s1 r1 => ⟨ds, d, .of r1, e3, fun w H2 s2 r2 => k w H2 (E1.same s2) (s1.trans (.of_same E1 s2)) r2⟩
theorem dxf_callB {x : Str} {id : String} {g : List D → Option (List D)} {e : Expr} {es : List Expr} {m : T → Option (List D × T)} {p pos : Pos} (hc : CallF X (.builtin id) g) (hm : X.mg x = none) (ha : DXA X c G (e :: es) m) (hg : Gl X x := by rfl) (hv : bootBuiltins x = some (.builtin id) := by decide +kernel)
    (hs : NoStar X (e :: es) := by exact ⟨rfl, rfl, rfl, rfl, trivial⟩) (hn : x ≠ "__name__" := by decide) (hdb : (x == ("__debug__" : Str)) = false := by decide) (hpl : (backTo pos (starEach es X.env)).any (·.1) = false := by rfl) : DXF X c G (.Call (.Name x p) (e :: es) [] pos) (appX g m) := fun t d t' hd σ H Q E k => by
  obtain ⟨⟨ds, t1⟩, e1, e2⟩ := Option.bind_eq_some_iff.mp hd
  obtain ⟨z, e3, e4⟩ := Option.map_eq_some_iff.mp e2
  cases e4
  refine sE_of (pe_callB hc hg hm hv (pa_s hs) hn hdb hs.1 hpl) ?_
  exact ha t ds _ e1 σ H _ E fun vs H1 E1 s1 r1 => ⟨ds, d, .of r1, e3, fun a H2 xs hn s2 h2 r2 => k a H2 xs (s1.free E hn) (E1.same s2) (s1.trans (.of_same E1 s2)) h2 r2⟩
theorem dx_ix {a b : Expr} {ma mb : T → Option (D × T)} {pos : Pos} (ha : DX X c G a ma) (hb : DX X c G b mb) (hs : PlainIx b := by intro _ _; rfl) : DX X c G (.Subscript a b pos) (binX dIx ma mb) := fun t d t' hd σ H Q E k => by
  obtain ⟨⟨x, t1⟩, e1, e2⟩ := Option.bind_eq_some_iff.mp hd
  obtain ⟨⟨y, t2⟩, e3, e4⟩ := Option.bind_eq_some_iff.mp e2
  obtain ⟨z, e5, e6⟩ := Option.map_eq_some_iff.mp e4
  cases e6
  refine sE_of (pe_ix id_ix (pe_s a) (pe_s b) hs) ?_
  exact ha t x t1 e1 σ H _ E fun v H1 E1 s1 r1 => hb t1 y _ e3 σ H1 _ E1 fun u H2 E2 s2 r2 => ⟨x, y, d, .st (r1.mono (s2.mono E1)), .st r2, e5, fun w H3 s3 r3 => k w H3 (E2.same s3) ((s1.trans s2).trans (.of_same E2 s3)) r3⟩
end
end DL

set_option Elab.async false
set_option linter.all false
set_option maxRecDepth 100000
set_option maxHeartbeats 2000000
set_option autoImplicit false
namespace DL
open PySem PySem.Spec PyProof.Rows L2
/-! ### what is walked -/
/-- a tuple that is taken apart at once -/
def isTupG : Expr → Prop
  | .Tuple _ _ _ => True
  | _ => False
inductive RpG (tg : Expr) (K : Fr_) (H : Hp) : V → D → Prop
  | st {v : V} {d : D} (h : Rp K H v d) : RpG tg K H v d
  | tw {a : Addr} {xs : List V} {ds : List D} (t : isTupG tg) (h : SqT K H a xs) (r : RpA K H xs ds) : RpG tg K H (.ref a) (.tuple ds)
theorem RpG.tuple {tg : Expr} {K : Fr_} {H : Hp} {v : V} {ds : List D} (h : RpG tg K H v (.tuple ds)) : ∃ a xs, v = .ref a ∧ SqT K H a xs ∧ RpA K H xs ds := by
  cases h with
  | st h => exact RpW.tuple (.st h)
  | tw t h r => exact ⟨_, _, rfl, h, r⟩
theorem RpG.name {x : Str} {pos : Pos} {K : Fr_} {H : Hp} {v : V} {d : D} (h : RpG (.Name x pos) K H v d) : Rp K H v d := by
  cases h with
  | st h => exact h
  | tw t h r => exact t.elim
/-- an iterator over the data ds, as long as Gd stands -/
structure ItD (tg : Expr) (K : Fr_) (J : It) (ds : List D) (Gd : Hp → Prop) : Prop where
  goes : ∀ i H, i < ds.length → Gd H → J.go i H
  stops : ∀ H, Gd H → J.stop ds.length H
  yields : ∀ i H x H' d, ds[i]? = some d → Gd H → J.yld i H x H' → Same H H' ∧ RpG tg K H' x d
  stays : ∀ H H', Gd H → Mono H H' → Gd H'
section
variable (X : Cx) (c : FC)
def sI (tg iter : Expr) : TI := fun σ H R => ∀ (pins : List (Addr × Obj)) (s : Shared), Inv X pins σ H s → wpAny (model X.prog X.w) X.A (eval iter X.env) (fun v s1 => wpAny (model X.prog X.w) X.A (pyIter v) (PIE X pins σ tg R) X.xe s1) X.xe s
def DI (Γ : Env_) (tg iter : Expr) (m : Option (List D)) : Prop := ∀ ds, m = some ds → ∀ (σ : St) (H : Hp) (R : It → Hp → Prop), EnvOk X.K c σ H Γ → (∀ J H' Gd, Same H H' → ItD tg X.K J ds Gd → Gd H' → R J H') → sI X tg iter σ H R
def DXI {T : Type} (G : T → Env_) (tg iter : Expr) (m : T → Option (List D × T)) : Prop := ∀ t ds t', m t = some (ds, t') → ∀ (σ : St) (H : Hp) (R : It → Hp → Prop), EnvOk X.K c σ H (G t) → (∀ J H' Gd, EnvOk X.K c σ H' (G t') → Step (G t) (G t') σ H H' → ItD tg X.K J ds Gd → Gd H' → R J H') → sI X tg iter σ H R
end
section
variable {X : Cx} {c : FC}
theorem pi_s (tg iter : Expr) : PI X tg iter (sI X tg iter) := ⟨fun pins s _ _ _ I h => h pins s I⟩
theorem sI_of {tg iter : Expr} {wi : TI} {σ : St} {H : Hp} {R : It → Hp → Prop} (h : PI X tg iter wi) (q : wi σ H R) : sI X tg iter σ H R := fun pins s I => h.run pins s σ H R I q
theorem pi_or {tg iter : Expr} {w1 w2 : TI} (h1 : PI X tg iter w1) (h2 : PI X tg iter w2) : PI X tg iter (fun σ H R => w1 σ H R ∨ w2 σ H R) := ⟨fun pins s σ H R I h => h.elim (h1.run pins s σ H R I) (h2.run pins s σ H R I)⟩
theorem pi_seq {tg l : Expr} {tl : TE} (hl : PE X l tl) : PI X tg l (fun σ H R => tl σ H fun x H1 => ∃ a, x = .ref a ∧ (((∃ xs, SqL X.K H1 a xs) ∧ R (Itl X.K a) H1) ∨ ((∃ xs, SqT X.K H1 a xs) ∧ R (Itt X.K a) H1))) := by
  refine ⟨fun pins s σ H R I h => ?_⟩
  refine thn (hl.run pins s σ H _ I h) fun v s1 ⟨x, H1, I1, r1, a, e, q⟩ => ?_
  have base : ∀ wi : TI, PI X tg (.Constant .none 0 ⟨0, 0, 0, 0⟩) wi → True := fun _ _ => trivial
  subst e
  cases r1
  rcases q with ⟨⟨xs, hq⟩, q⟩ | ⟨⟨xs, hq⟩, q⟩
  · obtain ⟨its, rv, p, hz⟩ := I1.list hq
    refine wpAny_pyIter_list p.isList (pi_one (tk := s1.toks) I1 _ (turn_list a _) ⟨_, Heap.get?_push_size _ rfl, rfl, rfl⟩ q)
  · obtain ⟨its, rv, p, hz⟩ := I1.tuple hq
    refine wpAny_pyIter_tuple (show s1.heap.IsTuple a its.toArray from p) (pi_one (tk := s1.toks) I1 _ (turn_tuple a _) ⟨_, Heap.get?_push_size _ rfl, rfl, rfl⟩ q)
def iterD : D → Option (List D)
  | .list ds => some ds
  | .tuple ds => some ds
  | _ => none
theorem itd_list {tg : Expr} {K : Fr_} {a : Addr} {xs : List V} {ds : List D} : ItD tg K (Itl K a) ds (fun H => Fz K H a xs ∧ RpA K H xs ds) where
  goes := fun i H hi ⟨h, r⟩ => by
    have hi' : i < xs.length := by rw [r.length]; exact hi
    exact ⟨xs, xs[i], h.sq, List.getElem?_eq_getElem hi'⟩
  stops := fun H ⟨h, r⟩ => ⟨xs, h.sq, by rw [r.length]; exact Nat.le_refl _⟩
  yields := fun i H x H' d hd ⟨h, r⟩ ⟨e, y⟩ => by
    subst e
    obtain ⟨v, h1, h2⟩ := r.get hd
    have := y xs h.sq
    rw [h1] at this
    cases this
    exact ⟨Same.refl _, .st h2⟩
  stays := fun H H' ⟨h, r⟩ m => ⟨m.fz h, r.mono m⟩
theorem itd_tup {tg : Expr} {K : Fr_} {a : Addr} {xs : List V} {ds : List D} : ItD tg K (Itt K a) ds (fun H => SqT K H a xs ∧ RpA K H xs ds) where
  goes := fun i H hi ⟨h, r⟩ => by
    have hi' : i < xs.length := by rw [r.length]; exact hi
    exact ⟨xs, xs[i], h, List.getElem?_eq_getElem hi'⟩
  stops := fun H ⟨h, r⟩ => ⟨xs, h, by rw [r.length]; exact Nat.le_refl _⟩
  yields := fun i H x H' d hd ⟨h, r⟩ ⟨e, y⟩ => by
    subst e
    obtain ⟨v, h1, h2⟩ := r.get hd
    have := y xs h
    rw [h1] at this
    cases this
    exact ⟨Same.refl _, .st h2⟩
  stays := fun H H' ⟨h, r⟩ m => ⟨m.sqT h, r.mono m⟩
/-- the ints lo, lo + 1, .. below hi -/
def rangeL (lo hi : Int) : List D := (List.range (hi - lo).toNat).map fun i => .int (lo + (i : Nat))
theorem rangeL_len (lo hi : Int) : (rangeL lo hi).length = (hi - lo).toNat := by unfold rangeL; rw [List.length_map, List.length_range]
theorem rangeL_get {lo hi : Int} {i : Nat} {d : D} (h : (rangeL lo hi)[i]? = some d) : d = .int (lo + (i : Nat)) ∧ i < (hi - lo).toNat := by
  have hl := (List.getElem?_eq_some_iff.mp h).1
  rw [rangeL_len] at hl
  unfold rangeL at h
  rw [List.getElem?_map, List.getElem?_range hl] at h
  cases h
  exact ⟨rfl, hl⟩
theorem itd_range {tg : Expr} {K : Fr_} {lo hi : Int} : ItD tg K (Itr lo (hi - lo).toNat) (rangeL lo hi) (fun _ => True) where
  goes := fun i H hl _ => by rw [rangeL_len] at hl; exact hl
  stops := fun H _ => by
    show (hi - lo).toNat ≤ (rangeL lo hi).length
    rw [rangeL_len]
    exact Nat.le_refl _
  yields := fun i H x H' d hd _ ⟨e, y⟩ => by
    subst e
    obtain ⟨rfl, _⟩ := rangeL_get hd
    subst y
    exact ⟨Same.refl _, .st (.int _)⟩
  stays := fun _ _ _ _ => trivial
/-- small enough for a range -/
noncomputable def rOk (i : Int) : Bool := cl (-(2 ^ 62) ≤ i ∧ i < 2 ^ 62)
theorem rOk_iff {i : Int} (h : rOk i = true) : -(2 ^ 62) ≤ i ∧ i < 2 ^ 62 := cl_iff.mp h
noncomputable def dR1 : D → Option (List D)
  | .int b => if rOk b then some (rangeL 0 b) else none
  | _ => none
noncomputable def dR2 : D → D → Option (List D)
  | .int a, .int b => if rOk a && rOk b then some (rangeL a b) else none
  | _, _ => none
theorem itd_range0 {tg : Expr} {K : Fr_} {b : Int} : ItD tg K (Itr 0 b.toNat) (rangeL 0 b) (fun _ => True) := by
  have q := itd_range (tg := tg) (K := K) (lo := 0) (hi := b)
  rw [show b - 0 = b by omega] at q
  exact q
section
variable {Γ : Env_}
theorem seq_go {tg : Expr} {σ : St} {H H1 : Hp} {R : It → Hp → Prop} {v : V} {x : D} {ds : List D} (r1 : Rp X.K H1 v x) (e2 : iterD x = some ds) (k : ∀ J Gd, ItD tg X.K J ds Gd → Gd H1 → R J H1) :
    ∃ a, v = V.ref a ∧ (((∃ xs, SqL X.K H1 a xs) ∧ R (Itl X.K a) H1) ∨ ((∃ xs, SqT X.K H1 a xs) ∧ R (Itt X.K a) H1)) := by
  cases r1 with
  | lst h r =>
    cases e2
    exact ⟨_, rfl, .inl ⟨⟨_, h.sq⟩, k _ _ itd_list ⟨h, r⟩⟩⟩
  | tup h r =>
    cases e2
    exact ⟨_, rfl, .inr ⟨⟨_, h.sq⟩, k _ _ itd_tup ⟨h.sq, r⟩⟩⟩
  | _ => cases e2
/-- what is walked: also a text's signs, a dict's keys -/
def iterS : D → Option (List D)
  | .list ds => some ds
  | .tuple ds => some ds
  | .str z => some (z.cps.toList.map fun ch => .str ⟨#[ch]⟩)
  | .dict kvs => some (kvs.map (·.1))
  | _ => none
theorem itd_str {tg : Expr} {K : Fr_} {z : Str} : ItD tg K (Its z) (z.cps.toList.map fun ch => .str ⟨#[ch]⟩) (fun _ => True) where
  goes := fun i H hi _ => by
    rw [List.length_map, Array.length_toList] at hi
    exact hi
  stops := fun H _ => by
    show z.cps.size ≤ _
    rw [List.length_map, Array.length_toList]
    exact Nat.le_refl _
  yields := fun i H x H' d hd _ y => by
    obtain ⟨rfl, ch, h1, rfl⟩ := y
    rw [List.getElem?_map] at hd
    obtain ⟨ch', h2, rfl⟩ := Option.map_eq_some_iff.mp hd
    rw [Array.getElem?_toList, h1] at h2
    cases h2
    exact ⟨Same.refl _, .st (.str _)⟩
  stays := fun _ _ _ _ => trivial
theorem rp_key {K : Fr_} {H : Hp} (k : Key) : Rp K H (kV k) (keyD k) := by
  cases k with
  | inl i => exact .int i
  | inr x => exact .str x
theorem itd_keys {tg : Expr} {K : Fr_} {d : Addr} {o : Obj} {ws : List (Key × V)} : ItD tg K (Itk d o ws) (ws.map fun p => keyD p.1) (fun H => H d = some (.frz o (.dK ws))) where
  goes := fun i H hi g => ⟨g, by rw [List.length_map] at hi; exact hi⟩
  stops := fun H g => ⟨g, by rw [List.length_map]; exact Nat.le_refl _⟩
  yields := fun i H x H' e he g ⟨h1, k, v, h2, h3⟩ => by
    subst h1 h3
    rw [List.getElem?_map, h2] at he
    cases he
    exact ⟨Same.refl _, .st (rp_key k)⟩
  stays := fun H H' g m => m.frz _ _ _ g
theorem any_go {tg : Expr} {H1 : Hp} {R : It → Hp → Prop} {v : V} {x : D} {ds : List D} (r1 : Rp X.K H1 v x) (e2 : iterS x = some ds) (k : ∀ J Gd, ItD tg X.K J ds Gd → Gd H1 → R J H1) :
    ((∃ a, v = V.ref a ∧ (((∃ xs, SqL X.K H1 a xs) ∧ R (Itl X.K a) H1) ∨ ((∃ xs, SqT X.K H1 a xs) ∧ R (Itt X.K a) H1))) ∨ (∃ z, v = .str z ∧ R (Its z) H1)) ∨
    ∃ d o, v = .ref d ∧ ((∃ kvs, H1 d = some (.frz o (.dK kvs)) ∧ R (Itk d o kvs) H1) ∨ ∃ kvs, H1 d = some (.frz o (.dT kvs)) ∧ R (Itkt d o kvs) H1) := by
  cases r1 with
  | lst h r =>
    cases e2
    exact .inl (.inl ⟨_, rfl, .inl ⟨⟨_, h.sq⟩, k _ _ itd_list ⟨h, r⟩⟩⟩)
  | tup h r =>
    cases e2
    exact .inl (.inl ⟨_, rfl, .inr ⟨⟨_, h.sq⟩, k _ _ itd_tup ⟨h.sq, r⟩⟩⟩)
  | str z =>
    cases e2
    exact .inl (.inr ⟨z, rfl, k _ _ itd_str trivial⟩)
  | dct h e r =>
    cases e2
    obtain ⟨o, h⟩ := h
    refine .inr ⟨_, o, rfl, .inl ⟨_, h, ?_⟩⟩
    exact k _ _ (by rw [← e]; exact itd_keys) h
  | _ => cases e2
/-- the value is handed to its iterator -/
theorem pi_val {tg e : Expr} {te : TE} (he : PE X e te) : PI X tg e (fun σ H R => te σ H fun v H1 =>
    ((∃ a, v = V.ref a ∧ (((∃ xs, SqL X.K H1 a xs) ∧ R (Itl X.K a) H1) ∨ ((∃ xs, SqT X.K H1 a xs) ∧ R (Itt X.K a) H1))) ∨ (∃ z, v = .str z ∧ R (Its z) H1)) ∨
    ∃ d o, v = .ref d ∧ ((∃ kvs, H1 d = some (.frz o (.dK kvs)) ∧ R (Itk d o kvs) H1) ∨ ∃ kvs, H1 d = some (.frz o (.dT kvs)) ∧ R (Itkt d o kvs) H1)) := by
  refine ⟨fun pins s σ H R I h => ?_⟩
  refine thn (he.run pins s σ H _ I h) fun u s1 ⟨v, H1, I1, rv, q⟩ => ?_
  rcases q with (⟨a, e, q⟩ | ⟨z, e, q⟩) | ⟨d, o, e, q⟩
  · subst e
    cases rv
    rcases q with ⟨⟨xs, hq⟩, q⟩ | ⟨⟨xs, hq⟩, q⟩
    · obtain ⟨its, rv, p, hz⟩ := I1.list hq
      refine wpAny_pyIter_list p.isList (pi_one (tk := s1.toks) I1 _ (turn_list a _) ⟨_, Heap.get?_push_size _ rfl, rfl, rfl⟩ q)
    · obtain ⟨its, rv, p, hz⟩ := I1.tuple hq
      refine wpAny_pyIter_tuple (show s1.heap.IsTuple a its.toArray from p) (pi_one (tk := s1.toks) I1 _ (turn_tuple a _) ⟨_, Heap.get?_push_size _ rfl, rfl, rfl⟩ q)
  · subst e
    obtain ⟨t, rfl⟩ := rv
    cases ha : z.cps.all (· < 128)
    · exact wpAny_pyIter_wide ha (pi_one (tk := s1.toks) I1 _ (turn_str _ z t "str_iterator" (.inr rfl)) ⟨_, Heap.get?_push_size _ rfl, rfl, rfl⟩ q)
    · exact wpAny_pyIter_ascii ha (pi_one (tk := s1.toks) I1 _ (turn_str _ z t "str_ascii_iterator" (.inl rfl)) ⟨_, Heap.get?_push_size _ rfl, rfl, rfl⟩ q)
  · subst e
    obtain rfl : u = Value.ref d := rv
    rcases q with ⟨kvs, hd, q⟩ | ⟨kvs, hd, q⟩
    · obtain ⟨hs, hgd, hx, es, ep, vs, hdt, hsz, kv, hm⟩ := I1.frzK hd
      refine iter_keys hs hgd hx hdt (pi_one (tk := s1.toks) I1 _ (turn_keys _ hdt) ⟨_, Heap.get?_push_size _ rfl, rfl, ?_⟩ q)
      rw [hsz] <;> rfl
    · obtain ⟨hs, hgd, hx, es, ep, hdt, hsz, ent⟩ := I1.frzT hd
      refine iter_keys hs hgd hx hdt (pi_one (tk := s1.toks) I1 _ (turn_keysT _ hdt) ⟨_, Heap.get?_push_size _ rfl, rfl, ?_⟩ q)
      rw [hsz] <;> rfl
theorem di_seq {tg e : Expr} {m : Option D} (h : DE X c Γ e m) : DI X c Γ tg e (m.bind iterS) := fun ds hd σ H R E k => by
  obtain ⟨x, e1, e2⟩ := Option.bind_eq_some_iff.mp hd
  exact sI_of (pi_val (pe_s e)) (h x e1 σ H _ E fun v H1 s1 r1 => any_go r1 e2 fun J Gd i g => k J H1 Gd s1 i g)
/-! over a list that a slot holds, as long as nothing changes -/
structure ItW (tg : Expr) (K : Fr_) (J : It) (ds : List D) (Gd : Hp → Prop) : Prop where
  goes : ∀ i H, i < ds.length → Gd H → J.go i H
  stops : ∀ H, Gd H → J.stop ds.length H
  yields : ∀ i H x H' d, ds[i]? = some d → Gd H → J.yld i H x H' → Same H H' ∧ RpG tg K H' x d
  stays : ∀ H H', Gd H → Same H H' → Gd H'
theorem ItD.w {tg : Expr} {K : Fr_} {J : It} {ds : List D} {Gd : Hp → Prop} (i : ItD tg K J ds Gd) : ItW tg K J ds Gd := ⟨i.goes, i.stops, i.yields, fun H H' g s => i.stays H H' g (.of_same s)⟩
def DIw (X : Cx) (c : FC) (Γ : Env_) (tg iter : Expr) (m : Option (List D)) : Prop := ∀ ds, m = some ds → ∀ (σ : St) (H : Hp) (R : It → Hp → Prop), EnvOk X.K c σ H Γ → (∀ J H' Gd, Same H H' → ItW tg X.K J ds Gd → Gd H' → R J H') → sI X tg iter σ H R
theorem DI.w {tg iter : Expr} {m : Option (List D)} (h : DI X c Γ tg iter m) : DIw X c Γ tg iter m := fun ds hd σ H R E k => h ds hd σ H R E fun J H' Gd s i g => k J H' Gd s i.w g
theorem itw_own {tg : Expr} {K : Fr_} {a : Addr} {xs : List V} {ds : List D} : ItW tg K (Itl K a) ds (fun H => H a = some (.lst xs) ∧ RpA K H xs ds) where
  goes := fun i H hi ⟨h, r⟩ => by
    have hi' : i < xs.length := by rw [r.length]; exact hi
    exact ⟨xs, xs[i], SqL.of h, List.getElem?_eq_getElem hi'⟩
  stops := fun H ⟨h, r⟩ => ⟨xs, SqL.of h, by rw [r.length]; exact Nat.le_refl _⟩
  yields := fun i H x H' d hd ⟨h, r⟩ ⟨e, y⟩ => by
    subst e
    obtain ⟨v, h1, h2⟩ := r.get hd
    have y1 := y xs (SqL.of h)
    rw [h1] at y1
    cases y1
    exact ⟨Same.refl _, .st h2⟩
  stays := fun H H' ⟨h, r⟩ s => ⟨s _ _ h, r.mono (.of_same s)⟩
def iterT : D → Option (List D)
  | .dict _ => none
  | d => iterS d
theorem iterT_S {d : D} {ds : List D} (h : iterT d = some ds) : iterS d = some ds := by
  cases d <;> first | exact h | cases h
theorem diw_own {tg e : Expr} {m : Option D} (h : DW X c Γ e m) : DIw X c Γ tg e (m.bind iterT) := fun ds hd σ H R E k => by
  obtain ⟨x, e1, e2⟩ := Option.bind_eq_some_iff.mp hd
  refine sI_of (pi_val (pe_s e)) (h x e1 σ H _ E fun v H1 s1 r1 => ?_)
  cases r1 with
  | st r1 => exact any_go r1 (iterT_S e2) fun J Gd i g => k J H1 Gd s1 i.w g
  | ow h r =>
    cases e2
    exact .inl (.inl ⟨_, rfl, .inl ⟨⟨_, SqL.of h⟩, k _ _ _ s1 itw_own ⟨h, r⟩⟩⟩)
  | od h r => cases e2
theorem r1_go {tg : Expr} {H1 : Hp} {R : It → Hp → Prop} {v : V} {x : D} {ds : List D} (r1 : RpW X.K H1 v x) (e2 : dR1 x = some ds) (k : ∀ J Gd, ItD tg X.K J ds Gd → Gd H1 → R J H1) : ∃ j : Int, v = .int j ∧ -(2 ^ 62) ≤ j ∧ j < 2 ^ 62 ∧ R (Itr 0 j.toNat) H1 := by
  unfold dR1 at e2
  split at e2
  · split at e2
    · rename_i hb
      cases e2
      obtain ⟨b1, b2⟩ := rOk_iff hb
      exact ⟨_, r1.int, b1, b2, k _ _ itd_range0 trivial⟩
    · cases e2
  · cases e2
theorem r2_go {tg : Expr} {H1 : Hp} {R : It → Hp → Prop} {v u : V} {x y : D} {ds : List D} (r1 : RpW X.K H1 v x) (r2 : RpW X.K H1 u y) (e2 : dR2 x y = some ds) (k : ∀ J Gd, ItD tg X.K J ds Gd → Gd H1 → R J H1) :
    ∃ i j : Int, v = .int i ∧ u = .int j ∧ (-(2 ^ 62) ≤ i ∧ i < 2 ^ 62 ∧ -(2 ^ 62) ≤ j ∧ j < 2 ^ 62) ∧ R (Itr i (j - i).toNat) H1 := by
  unfold dR2 at e2
  split at e2
  · split at e2
    · rename_i hb
      cases e2
      obtain ⟨h1, h2⟩ := Bool.and_eq_true_iff.mp hb
      obtain ⟨b1, b2⟩ := rOk_iff h1
      obtain ⟨b3, b4⟩ := rOk_iff h2
      exact ⟨_, _, r1.int, r2.int, ⟨b1, b2, b3, b4⟩, k _ _ itd_range trivial⟩
    · cases e2
  · cases e2
theorem di_range1 {tg a : Expr} {m : Option D} {p pos : Pos} (hm : X.mg "range" = none) (ha : DE X c Γ a m) (hg : Gl X "range" := by rfl) (hs : starEach [a] X.env = [(false, eval a X.env)] := by rfl) : DI X c Γ tg (.Call (.Name "range" p) [a] [] pos) (m.bind dR1) := fun ds hd σ H R E k => by
  obtain ⟨x, e1, e2⟩ := Option.bind_eq_some_iff.mp hd
  refine sI_of (pi_range1 hg hm (pa_s ⟨hs, trivial⟩) hs) (ha x e1 σ H _ E fun v H1 s1 r1 => ?_)
  obtain ⟨j, e, b1, b2, q⟩ := r1_go (.st r1) e2 fun J Gd i g => k J H1 Gd s1 i g
  exact ⟨j, by rw [e], b1, b2, q⟩
theorem di_range2 {tg a b : Expr} {ma mb : Option D} {p pos : Pos} (hm : X.mg "range" = none) (ha : DE X c Γ a ma) (hb : DE X c Γ b mb) (hg : Gl X "range" := by rfl) (hs : starEach [a, b] X.env = [(false, eval a X.env), (false, eval b X.env)] := by rfl) (hs2 : starEach [b] X.env = [(false, eval b X.env)] := by rfl) :
    DI X c Γ tg (.Call (.Name "range" p) [a, b] [] pos) (ma.bind fun x => mb.bind fun y => dR2 x y) := fun ds hd σ H R E k => by
  obtain ⟨x, e1, e2⟩ := Option.bind_eq_some_iff.mp hd
  obtain ⟨y, e3, e4⟩ := Option.bind_eq_some_iff.mp e2
  refine sI_of (pi_range2 hg hm (pa_s ⟨by rw [hs, hs2], hs2, trivial⟩) hs hs2) (ha x e1 σ H _ E fun v H1 s1 r1 => hb y e3 σ H1 _ (E.same s1) fun u H2 s2 r2 => ?_)
  obtain ⟨i, j, ei, ej, b1, q⟩ := r2_go (.st (r1.mono (.of_same s2))) (.st r2) e4 fun J Gd i g => k J H2 Gd (s1.trans s2) i g
  exact ⟨i, j, by rw [ei, ej], b1, q⟩
theorem di_str {tg e : Expr} {m : Option D} (h : DE X c Γ e m) : DI X c Γ tg e (m.bind fun d => match d with | .str z => some (z.cps.toList.map fun ch => .str ⟨#[ch]⟩) | _ => none) := fun ds hd σ H R E k => by
  obtain ⟨x, e1, e2⟩ := Option.bind_eq_some_iff.mp hd
  split at e2
  · rename_i z
    cases e2
    refine sI_of (pi_str (pe_s e)) (h _ e1 σ H _ E fun v H1 s1 r1 => ⟨z, RpW.str (.st r1), k _ H1 (fun _ => True) s1 ⟨fun i H hi _ => ?_, fun H _ => ?_, fun i H x H' d hd _ y => ?_, fun _ _ _ _ => trivial⟩ trivial⟩)
    · rw [List.length_map, Array.length_toList] at hi
      exact hi
    · show z.cps.size ≤ _
      rw [List.length_map, Array.length_toList]
      exact Nat.le_refl _
    · obtain ⟨rfl, ch, h1, rfl⟩ := y
      rw [List.getElem?_map] at hd
      obtain ⟨ch', h2, rfl⟩ := Option.map_eq_some_iff.mp hd
      rw [Array.getElem?_toList, h1] at h2
      cases h2
      exact ⟨Same.refl _, .st (.str _)⟩
  · cases e2
end
section
variable {T : Type} {G : T → Env_}
theorem dxi_lift {tg e : Expr} {m : T → Option (List D)} (h : ∀ t, DI X c (G t) tg e (m t)) : DXI X c G tg e (liftX m) := fun t d t' hd σ H R E k => by
  obtain ⟨e1, rfl⟩ := liftX_eq hd
  exact h _ d e1 σ H R E fun J H' Gd s i g => k J H' Gd (E.same s) (.of_same E s) i g
def bindX {α β : Type} (m : T → Option (α × T)) (g : α → Option β) : T → Option (β × T) := fun t => (m t).bind fun p => (g p.1).map fun z => (z, p.2)
theorem bindX_eq {α β : Type} {m : T → Option (α × T)} {g : α → Option β} {t t' : T} {z : β} (h : bindX m g t = some (z, t')) : ∃ x, m t = some (x, t') ∧ g x = some z := by
  obtain ⟨⟨x, t1⟩, e1, e2⟩ := Option.bind_eq_some_iff.mp h
  obtain ⟨w, e3, e4⟩ := Option.map_eq_some_iff.mp e2
  cases e4
  exact ⟨x, e1, e3⟩
theorem dxi_seq {tg e : Expr} {m : T → Option (D × T)} (h : DX X c G e m) : DXI X c G tg e (bindX m iterS) := fun t ds t' hd σ H R E k => by
  obtain ⟨x, e1, e2⟩ := bindX_eq hd
  exact sI_of (pi_val (pe_s e)) (h t x t' e1 σ H _ E fun v H1 E1 s1 r1 => any_go r1 e2 fun J Gd i g => k J H1 Gd E1 s1 i g)
theorem dxi_range1 {tg a : Expr} {m : T → Option (D × T)} {p pos : Pos} (hm : X.mg "range" = none) (ha : DX X c G a m) (hg : Gl X "range" := by rfl) (hs : starEach [a] X.env = [(false, eval a X.env)] := by rfl) : DXI X c G tg (.Call (.Name "range" p) [a] [] pos) (bindX m dR1) := fun t ds t' hd σ H R E k => by
  obtain ⟨x, e1, e2⟩ := bindX_eq hd
  refine sI_of (pi_range1 hg hm (pa_s ⟨hs, trivial⟩) hs) (ha t x t' e1 σ H _ E fun v H1 E1 s1 r1 => ?_)
  obtain ⟨j, e, b1, b2, q⟩ := r1_go (.st r1) e2 fun J Gd i g => k J H1 Gd E1 s1 i g
  exact ⟨j, by rw [e], b1, b2, q⟩
end
/-! targets -/
def sG (X : Cx) (tg : Expr) : TG := fun v σ H Q => ∀ (pins : List (Addr × Obj)) (s : Shared) (u : Value), Inv X pins σ H s → RelV v u → wpAny (model X.prog X.w) X.A (assign tg X.env u) (fun _ s' => ∃ σ' H', Inv X pins σ' H' s' ∧ Q σ' H') X.xe s
theorem pg_s (tg : Expr) : PG X tg (sG X tg) := ⟨fun pins s _ _ _ u _ I r h => h pins s u I r⟩
theorem sG_of {tg : Expr} {g : TG} {v : V} {σ : St} {H : Hp} {Q : St → Hp → Prop} (h : PG X tg g) (q : g v σ H Q) : sG X tg v σ H Q := fun pins s u I r => h.run pins s σ H v u Q I r q
/-- only the slots js changed -/
def OnlyAt (js : List Nat) (σ σ' : St) : Prop := σ'.length = σ.length ∧ ∀ i, i ∉ js → σ'[i]? = σ[i]?
theorem OnlyAt.trans {js ks : List Nat} {σ σ1 σ2 : St} (a : OnlyAt js σ σ1) (b : OnlyAt ks σ1 σ2) : OnlyAt (js ++ ks) σ σ2 := ⟨b.1.trans a.1, fun i hi => (b.2 i fun z => hi (List.mem_append_right _ z)).trans (a.2 i fun z => hi (List.mem_append_left _ z))⟩
theorem OnlyAt.set {i : Nat} {σ : St} {o : Option V} : OnlyAt [i] σ (σ.set i o) := ⟨List.length_set, fun j hj => List.getElem?_set_ne fun e => hj (by rw [e]; exact List.mem_cons_self)⟩
/-- a value of data x goes into tg: pm takes it apart, Gt tells the slots behind -/
def DG {P : Type} (X : Cx) (c : FC) (js : List Nat) (Γ : Env_) (tg : Expr) (pm : D → Option P) (Gt : P → Env_) : Prop :=
  ∀ x p, pm x = some p → ∀ (v : V) (σ : St) (H : Hp) (Q : St → Hp → Prop), EnvOk X.K c σ H Γ → RpG tg X.K H v x → (∀ σ', EnvOk X.K c σ' H (Gt p) → OnlyAt js σ σ' → Q σ' H) → sG X tg v σ H Q
theorem noPin {i : Nat} (h : (c.M.map (·.1)).contains i = false) : ∀ p ∈ c.M, p.1 ≠ i := fun p hp e => by
  subst e
  have : p.1 ∈ c.M.map (·.1) := List.mem_map.mpr ⟨p, hp, rfl⟩
  rw [← List.contains_iff_mem] at this
  rw [h] at this
  cases this
theorem dg_name (i : Nat) {Γ : Env_} {x : Str} {pos : Pos} (hN : X.N.Nodup) (hi : X.N[i]? = some x := by rfl) (hx : Loc X.env.scope x := by first | exact Or.inl rfl | exact Or.inr rfl) (hm : (c.M.map (·.1)).contains i = false := by rfl) (hf : X.fn x = true ∨ X.env.scope.names.lookup x = some .local := by first | exact .inl rfl | exact .inr rfl) :
    DG X c [i] Γ (.Name x pos) some (fun d => Γ.set i (.imm d)) := fun x' p hp v σ H Q E r k => by
  cases hp
  exact sG_of (pg_name hN hi hx hf) (k _ (E.setImm r.name (noPin hm)) OnlyAt.set)
def un2 {P Q : Type} (p1 : D → Option P) (p2 : D → Option Q) : D → Option (P × Q)
  | .tuple [a, b] => (p1 a).bind fun u => (p2 b).map fun w => (u, w)
  | _ => none
def un3 {P Q R : Type} (p1 : D → Option P) (p2 : D → Option Q) (p3 : D → Option R) : D → Option (P × Q × R)
  | .tuple [a, b, d] => (p1 a).bind fun u => (p2 b).bind fun w => (p3 d).map fun z => (u, w, z)
  | _ => none
theorem dg_tup2 {P1 P2 : Type} {js ks : List Nat} {Γ : Env_} {e1 e2 : Expr} {k1 : Nat} {pos : Pos} {p1 : D → Option P1} {p2 : D → Option P2} {G1 : P1 → Env_} {G2 : P1 → P2 → Env_} (hc : X.calm = true) (h1 : DG X c js Γ e1 p1 G1) (h2 : ∀ a, DG X c ks (G1 a) e2 p2 (G2 a))
    (n1 : assignEach [e1, e2] X.env = [(false, assign e1 X.env), (false, assign e2 X.env)] := by rfl) (n2 : assignEach [e2] X.env = [(false, assign e2 X.env)] := by rfl) :
    DG X c (js ++ ks) Γ (.Tuple [e1, e2] k1 pos) (un2 p1 p2) (fun q => G2 q.1 q.2) := fun x p hp v σ H Q E r k => by
  unfold un2 at hp
  split at hp
  · rename_i a b
    obtain ⟨u, e3, e4⟩ := Option.bind_eq_some_iff.mp hp
    obtain ⟨w, e5, rfl⟩ := Option.map_eq_some_iff.mp e4
    obtain ⟨ad, xs, rfl, hq, rr⟩ := r.tuple
    cases rr with
    | cons ra rr =>
      cases rr with
      | cons rb rr =>
        cases rr
        refine sG_of (pg_tup hc (pgs_cons (pg_s e1) (pgs_cons (pg_s e2) pgs_nil (by rw [n2] <;> rfl)) (by rw [n1, n2] <;> rfl)) (by rw [n1] <;> rfl) (by rw [n1] <;> rfl)) ⟨ad, _, rfl, hq, rfl, _, _, rfl, ?_⟩
        exact h1 a u e3 _ σ H _ E (.st ra) fun σ1 E1 o1 => ⟨_, _, rfl, h2 u b w e5 _ σ1 H _ E1 (.st rb) fun σ2 E2 o2 => ⟨rfl, k σ2 E2 (o1.trans o2)⟩⟩
  · cases hp
theorem dg_tup3 {P1 P2 P3 : Type} {js ks ls : List Nat} {Γ : Env_} {e1 e2 e3 : Expr} {k1 : Nat} {pos : Pos} {p1 : D → Option P1} {p2 : D → Option P2} {p3 : D → Option P3} {G1 : P1 → Env_} {G2 : P1 → P2 → Env_} {G3 : P1 → P2 → P3 → Env_} (hc : X.calm = true) (h1 : DG X c js Γ e1 p1 G1) (h2 : ∀ a, DG X c ks (G1 a) e2 p2 (G2 a)) (h3 : ∀ a b, DG X c ls (G2 a b) e3 p3 (G3 a b))
    (n1 : assignEach [e1, e2, e3] X.env = [(false, assign e1 X.env), (false, assign e2 X.env), (false, assign e3 X.env)] := by rfl) (n2 : assignEach [e2, e3] X.env = [(false, assign e2 X.env), (false, assign e3 X.env)] := by rfl) (n3 : assignEach [e3] X.env = [(false, assign e3 X.env)] := by rfl) :
    DG X c ((js ++ ks) ++ ls) Γ (.Tuple [e1, e2, e3] k1 pos) (un3 p1 p2 p3) (fun q => G3 q.1 q.2.1 q.2.2) := fun x p hp v σ H Q E r k => by
  unfold un3 at hp
  split at hp
  · rename_i a b d
    obtain ⟨u, e4, e5⟩ := Option.bind_eq_some_iff.mp hp
    obtain ⟨w, e6, e7⟩ := Option.bind_eq_some_iff.mp e5
    obtain ⟨z, e8, rfl⟩ := Option.map_eq_some_iff.mp e7
    obtain ⟨ad, xs, rfl, hq, rr⟩ := r.tuple
    cases rr with
    | cons ra rr =>
      cases rr with
      | cons rb rr =>
        cases rr with
        | cons rd rr =>
          cases rr
          refine sG_of (pg_tup hc (pgs_cons (pg_s e1) (pgs_cons (pg_s e2) (pgs_cons (pg_s e3) pgs_nil (by rw [n3] <;> rfl)) (by rw [n2, n3] <;> rfl)) (by rw [n1, n2] <;> rfl)) (by rw [n1] <;> rfl) (by rw [n1] <;> rfl)) ⟨ad, _, rfl, hq, rfl, _, _, rfl, ?_⟩
          exact h1 a u e4 _ σ H _ E (.st ra) fun σ1 E1 o1 => ⟨_, _, rfl, h2 u b w e6 _ σ1 H _ E1 (.st rb) fun σ2 E2 o2 => ⟨_, _, rfl, h3 u w d z e8 _ σ2 H _ E2 (.st rd) fun σ3 E3 o3 => ⟨rfl, k σ3 E3 ((o1.trans o2).trans o3)⟩⟩⟩
  · cases hp
end
end DL

set_option Elab.async false
set_option linter.all false
set_option maxRecDepth 100000
set_option maxHeartbeats 2000000
set_option autoImplicit false
namespace DL
open PySem PySem.Spec PyProof.Rows L2
/-! ### statements -/
/-- how a block ends -/
inductive Fl (N B R : Type) where
  | nx (n : N) | bk (b : B) | ct (b : B) | rt (r : R)
structure Fin_ (K : Fr_) (c : FC) {N B R : Type} (GN : N → Env_) (GB : B → Env_) (RK : R → V → Hp → Prop) (H : Hp) (o : Fl N B R) (D : Ends) : Prop where
  nx : ∀ n, o = .nx n → ∀ σ' H', EnvOk K c σ' H' (GN n) → Mono H H' → D.nx σ' H'
  bk : ∀ b, o = .bk b → ∀ σ' H', EnvOk K c σ' H' (GB b) → Mono H H' → D.bk σ' H'
  ct : ∀ b, o = .ct b → ∀ σ' H', EnvOk K c σ' H' (GB b) → Mono H H' → D.ct σ' H'
  rt : ∀ r, o = .rt r → ∀ v H', RK r v H' → D.rt v H'
theorem Fin_.mono {K : Fr_} {c : FC} {N B R : Type} {GN : N → Env_} {GB : B → Env_} {RK : R → V → Hp → Prop} {H H1 : Hp} {o : Fl N B R} {D : Ends} (f : Fin_ K c GN GB RK H o D) (m : Mono H H1) : Fin_ K c GN GB RK H1 o D :=
  ⟨fun n e σ' H' E m' => f.nx n e σ' H' E (m.trans m'), fun n e σ' H' E m' => f.bk n e σ' H' E (m.trans m'), fun n e σ' H' E m' => f.ct n e σ' H' E (m.trans m'), f.rt⟩
/-- the block sts ends as m tells -/
def DB (X : Cx) (c : FC) {N B R : Type} (GN : N → Env_) (GB : B → Env_) (RK : R → V → Hp → Prop) (Γ : Env_) (sts : List Stmt) (m : Option (Fl N B R)) : Prop :=
  ∀ o, m = some o → ∀ (σ : St) (H : Hp) (D : Ends), EnvOk X.K c σ H Γ → Fin_ X.K c GN GB RK H o D → sSs X sts D σ H
/-- the lists handed in stay held by their slots -/
def pinsIn (is : List Nat) (Γ : Env_) : Bool := is.all fun i => match Γ[i]? with
  | some (.own _) => true
  | _ => false
theorem pinsIn_iff {c : FC} {Γ : Env_} (h : pinsIn (c.M.map (·.1)) Γ = true) : ∀ p ∈ c.M, ∃ k : Cell, Γ[p.1]? = some k ∧ k.isOwn = true := fun p hp => by
  have h1 := List.all_eq_true.mp h p.1 (List.mem_map.mpr ⟨p, hp, rfl⟩)
  split at h1
  · rename_i ds e
    exact ⟨_, e, rfl⟩
  · cases h1
section
variable {X : Cx} {c : FC} {N B R : Type} {GN : N → Env_} {GB : B → Env_} {RK : R → V → Hp → Prop} {Γ : Env_} {rest : List Stmt}
theorem db_none {sts : List Stmt} : DB X c GN GB RK Γ sts none := fun o h => nomatch h
theorem db_nil (n : N) (l : EnvLe Γ (GN n)) (hp : pinsIn (c.M.map (·.1)) (GN n) = true := by rfl) : DB X c GN GB RK Γ [] (some (.nx n)) := fun o h σ H D E f => by
  cases h
  exact sSs_of pss_nil (f.nx n rfl σ H (E.le l (pinsIn_iff hp)) (Mono.refl H))
theorem db_pass {pos : Pos} {m : Option (Fl N B R)} (h : DB X c GN GB RK Γ rest m) : DB X c GN GB RK Γ (.Pass pos :: rest) m := fun o e σ H D E f => sSs_cons ps_pass (h o e σ H D E f)
theorem db_break {pos : Pos} (b : B) (l : EnvLe Γ (GB b)) (hp : pinsIn (c.M.map (·.1)) (GB b) = true := by rfl) : DB X c GN GB RK Γ (.Break pos :: rest) (some (.bk b)) := fun o h σ H D E f => by
  cases h
  exact sSs_cons ps_break (f.bk b rfl σ H (E.le l (pinsIn_iff hp)) (Mono.refl H))
theorem db_cont {pos : Pos} (b : B) (l : EnvLe Γ (GB b)) (hp : pinsIn (c.M.map (·.1)) (GB b) = true := by rfl) : DB X c GN GB RK Γ (.Continue pos :: rest) (some (.ct b)) := fun o h σ H D E f => by
  cases h
  exact sSs_cons ps_continue (f.ct b rfl σ H (E.le l (pinsIn_iff hp)) (Mono.refl H))
/-! x = e -/
theorem db_asg (i : Nat) {x : Str} {e : Expr} {me : Option D} {mr : D → Option (Fl N B R)} {pos pos' : Pos} (hN : X.N.Nodup) (he : DE X c Γ e me) (hr : ∀ d, DB X c GN GB RK (Γ.set i (.imm d)) rest (mr d)) (hi : X.N[i]? = some x := by rfl) (hx : Loc X.env.scope x := by first | exact Or.inl rfl | exact Or.inr rfl)
    (hm : (c.M.map (·.1)).contains i = false := by rfl) (hs : swapsWith e (some (.Name x pos')) pos.line X.env = pure false := by rfl) (hf : X.fn x = true ∨ X.env.scope.names.lookup x = some .local := by first | exact .inl rfl | exact .inr rfl) :
    DB X c GN GB RK Γ (.Assign [.Name x pos'] e pos :: rest) (me.bind mr) := fun o h σ H D E f => by
  obtain ⟨d, e1, e2⟩ := Option.bind_eq_some_iff.mp h
  exact sSs_cons (ps_set hN hi hx (pe_s e) hs hf) (he d e1 σ H _ E fun v H1 s1 r1 => hr d o e2 _ H1 D ((E.same s1).setImm r1 (noPin hm)) (f.mono (.of_same s1)))
theorem db_asgF (i : Nat) {x : Str} {e : Expr} {me : Option (List D)} {mr : List D → Option (Fl N B R)} {pos pos' : Pos} (hN : X.N.Nodup) (he : DF X c Γ e me) (hr : ∀ d, DB X c GN GB RK (Γ.set i (.own d)) rest (mr d)) (hi : X.N[i]? = some x := by rfl) (hx : Loc X.env.scope x := by first | exact Or.inl rfl | exact Or.inr rfl)
    (hm : (c.M.map (·.1)).contains i = false := by rfl) (hs : swapsWith e (some (.Name x pos')) pos.line X.env = pure false := by rfl) (hf : X.fn x = true ∨ X.env.scope.names.lookup x = some .local := by first | exact .inl rfl | exact .inr rfl) :
    DB X c GN GB RK Γ (.Assign [.Name x pos'] e pos :: rest) (me.bind mr) := fun o h σ H D E f => by
  obtain ⟨d, e1, e2⟩ := Option.bind_eq_some_iff.mp h
  exact sSs_cons (ps_set hN hi hx (pe_s e) hs hf) (he d e1 σ H _ E fun a H1 xs hn s1 ha r1 => hr d o e2 _ H1 D ((E.same s1).setOwn ha r1 (E.notOwn hn) (E.fresh0 hn) (noPin hm)) (f.mono (.of_same s1)))
/-- e's value taken apart -/
theorem db_unp {P : Type} {js : List Nat} {tg e : Expr} {me : Option D} {pm : D → Option P} {Gt : P → Env_} {mr : P → Option (Fl N B R)} {pos : Pos} (he : DE X c Γ e me) (ht : DG X c js Γ tg pm Gt) (hr : ∀ p, DB X c GN GB RK (Gt p) rest (mr p))
    (hs : swapsWithSole [tg] e pos.line X.env = pure false := by rfl) (hw : swappedStores [tg] e X.env = pure none := by rfl) (h1 : (assignEach [tg] X.env).map (·.2) = [assign tg X.env] := by rfl) : DB X c GN GB RK Γ (.Assign [tg] e pos :: rest) ((me.bind pm).bind mr) := fun o h σ H D E f => by
  obtain ⟨p, e0, e2⟩ := Option.bind_eq_some_iff.mp h
  obtain ⟨d, e1, e3⟩ := Option.bind_eq_some_iff.mp e0
  exact sSs_cons (ps_asg (pe_s e) (pg_s tg) hs hw h1) (he d e1 σ H _ E fun v H1 s1 r1 => ht d p e3 v σ H1 _ (E.same s1) (.st r1) fun σ' E' _ => hr p o e2 _ H1 D E' (f.mono (.of_same s1)))
/-! a bare expression, a return -/
theorem db_expr {e : Expr} {me : Option D} {mr : Option (Fl N B R)} {pos : Pos} (he : DE X c Γ e me) (hr : DB X c GN GB RK Γ rest mr) (hs : swapsWith e none pos.line X.env = pure false := by rfl) : DB X c GN GB RK Γ (.Expr e pos :: rest) (me.bind fun _ => mr) := fun o h σ H D E f => by
  obtain ⟨d, e1, e2⟩ := Option.bind_eq_some_iff.mp h
  exact sSs_cons (ps_expr (pe_s e) hs) (he d e1 σ H _ E fun v H1 s1 r1 => hr o e2 _ H1 D (E.same s1) (f.mono (.of_same s1)))
theorem db_ret {e : Expr} {me : Option D} {g : D → R} {pos : Pos} (he : DE X c Γ e me) (hg : ∀ d v σ H, EnvOk X.K c σ H Γ → Rp X.K H v d → RK (g d) v H) : DB X c GN GB RK Γ (.Return (some e) pos :: rest) (me.map fun d => .rt (g d)) := fun o h σ H D E f => by
  obtain ⟨d, e1, rfl⟩ := Option.map_eq_some_iff.mp h
  exact sSs_cons (ps_ret (pe_s e)) (he d e1 σ H _ E fun v H1 s1 r1 => f.rt _ rfl v H1 (hg d v σ H1 (E.same s1) r1))
theorem db_retF {e : Expr} {me : Option (List D)} {g : List D → R} {pos : Pos} (he : DF X c Γ e me) (hg : ∀ d a xs σ H, EnvOk X.K c σ H Γ → c.H0 a = none → H a = some (.lst xs) → RpA X.K H xs d → RK (g d) (.ref a) H) : DB X c GN GB RK Γ (.Return (some e) pos :: rest) (me.map fun d => .rt (g d)) := fun o h σ H D E f => by
  obtain ⟨d, e1, rfl⟩ := Option.map_eq_some_iff.mp h
  exact sSs_cons (ps_ret (pe_s e)) (he d e1 σ H _ E fun a H1 xs hn s1 ha r1 => f.rt _ rfl _ H1 (hg d a xs σ H1 (E.same s1) (E.fresh0 hn) ha r1))
/-- return of a list that a slot holds (not one handed in) -/
theorem db_retOwn (i : Nat) {x : Str} {ds : List D} {g : List D → R} {pos pos' : Pos} (h : Γ[i]? = some (.own ds) := by rfl) (hg : ∀ a xs σ H, EnvOk X.K c σ H Γ → c.H0 a = none → H a = some (.lst xs) → RpA X.K H xs ds → RK (g ds) (.ref a) H) (hm : (c.M.map (·.1)).contains i = false := by rfl)
    (hN : X.N[i]? = some x := by rfl) (hv : Vis X.env.scope x := by first | exact Or.inl rfl | exact Or.inr (Or.inl rfl) | exact Or.inr (Or.inr rfl)) (hd : (x == ("__debug__" : Str)) = false := by decide) (hcd : (x == ("__classdict__" : Str)) = false := by decide) :
    DB X c GN GB RK Γ (.Return (some (.Name x pos')) pos :: rest) (some (.rt (g ds))) := fun o h' σ H D E f => by
  cases h'
  obtain ⟨a, xs, e, ha, r⟩ := E.cells i _ h
  refine sSs_cons (ps_ret (pe_var hN hv hd hcd)) ⟨_, e, f.rt _ rfl _ H (hg a xs σ H E ?_ ha r)⟩
  rcases E.new a ⟨i, _, h, rfl, e⟩ with ⟨p, hp, ep⟩ | z
  · exfalso
    obtain ⟨h1, k, h2, h3⟩ := E.pins p hp
    have hne : p.1 ≠ i := noPin hm p hp
    rw [ep] at h1
    exact E.apart p.1 i k _ a hne h2 h3 h rfl h1 e
  · exact z
/-! if -/
def seqFl {N1 : Type} (mr : N1 → Option (Fl N B R)) : Fl N1 B R → Option (Fl N B R)
  | .nx n => mr n
  | .bk b => some (.bk b)
  | .ct b => some (.ct b)
  | .rt r => some (.rt r)
theorem seq_fin {N1 : Type} {G1 : N1 → Env_} {mr : N1 → Option (Fl N B R)} {H : Hp} {D : Ends} {o1 : Fl N1 B R} {o : Fl N B R} (h : seqFl mr o1 = some o) (hr : ∀ n, DB X c GN GB RK (G1 n) rest (mr n)) (f : Fin_ X.K c GN GB RK H o D) : Fin_ X.K c G1 GB RK H o1 { D with nx := sSs X rest D } := by
  cases o1 with
  | nx n => exact ⟨(fun n' e σ' H' E m => by cases e; exact hr n o h σ' H' D E (f.mono m)), (fun b e => nomatch e), (fun b e => nomatch e), (fun b e => nomatch e)⟩
  | bk b =>
    cases h
    exact ⟨(fun b e => nomatch e), (fun b' e => by cases e; exact f.bk b rfl), (fun b e => nomatch e), (fun b e => nomatch e)⟩
  | ct b =>
    cases h
    exact ⟨(fun b e => nomatch e), (fun b e => nomatch e), (fun b' e => by cases e; exact f.ct b rfl), (fun b e => nomatch e)⟩
  | rt r =>
    cases h
    exact ⟨(fun b e => nomatch e), (fun b e => nomatch e), (fun b e => nomatch e), (fun b' e => by cases e; exact f.rt r rfl)⟩
theorem db_if {N1 : Type} (G1 : N1 → Env_) {t : Expr} {a b : List Stmt} {mt : Option Bool} {ma mb : Option (Fl N1 B R)} {mr : N1 → Option (Fl N B R)} {pos : Pos} (ht : DT X c Γ t mt) (ha : DB X c G1 GB RK Γ a ma) (hb : DB X c G1 GB RK Γ b mb) (hr : ∀ n, DB X c GN GB RK (G1 n) rest (mr n)) :
    DB X c GN GB RK Γ (.If t a b pos :: rest) ((iteO mt ma mb).bind (seqFl mr)) := fun o h σ H D E f => by
  obtain ⟨o1, e1, e2⟩ := Option.bind_eq_some_iff.mp h
  obtain ⟨x, e3, e4⟩ := Option.bind_eq_some_iff.mp e1
  refine sSs_cons (ps_if (pt_s t) (pss_s a) (pss_s b)) (ht x e3 σ H _ E fun H1 s1 => ?_)
  cases x with
  | true => exact iteT (ha o1 e4 σ H1 _ (E.same s1) (seq_fin e2 hr (f.mono (.of_same s1))))
  | false => exact iteF (hb o1 e4 σ H1 _ (E.same s1) (seq_fin e2 hr (f.mono (.of_same s1))))
/-! for -/
inductive Lp (L R : Type) where
  | nx (l : L) | rt (r : R)
def forF {L R : Type} (f : L → D → Option (Fl L L R)) : List D → L → Option (Lp L R)
  | [], l => some (.nx l)
  | x :: r, l => (f l x).bind fun o => match o with
    | .nx l' => forF f r l'
    | .ct l' => forF f r l'
    | .bk l' => some (.nx l')
    | .rt z => some (.rt z)
def seqLp {L : Type} (mr : L → Option (Fl N B R)) : Lp L R → Option (Fl N B R)
  | .nx n => mr n
  | .rt r => some (.rt r)
theorem for_core {L P : Type} {GL : L → Env_} {js : List Nat} {tg : Expr} {body : List Stmt} {pm : D → Option P} {Gt : L → P → Env_} {mb : L → P → Option (Fl L L R)} {mr : L → Option (Fl N B R)} {J : It} {ds : List D} {Gd : Hp → Prop} {σ : St} {H : Hp} {D : Ends} {l0 : L} {o : Fl N B R} {z : Lp L R}
    (ht : ∀ l, DG X c js (GL l) tg pm (Gt l)) (hb : ∀ l p, DB X c GL GL RK (Gt l p) body (mb l p)) (hr : ∀ l, DB X c GN GB RK (GL l) rest (mr l))
    (hz : forF (fun l x => (pm x).bind (mb l)) ds l0 = some z) (ho : seqLp mr z = some o) (i : ItD tg X.K J ds Gd) (g : Gd H) (E : EnvOk X.K c σ H (GL l0)) (f : Fin_ X.K c GN GB RK H o D) :
    ∃ W : Nat → Nat → St → Hp → Prop, (∃ m, W 0 m σ H) ∧ ∀ i m σ H, W i m σ H →
      (J.stop i H ∧ (sSs X rest D) σ H) ∨ (J.go i H ∧ ∃ N : St → Hp → Prop, (∀ σ' H', N σ' H' → ∃ m', m' < m ∧ W (i + 1) m' σ' H') ∧ ∀ x H', J.yld i H x H' → sG X tg x σ H' fun σ2 H2 => sSs X body { { D with nx := sSs X rest D } with nx := N, ct := N, bk := sSs X rest D } σ2 H2) := by
  refine ⟨fun j m σ' H' => m = ds.length - j ∧ j ≤ ds.length ∧ Mono H H' ∧ ∃ l, EnvOk X.K c σ' H' (GL l) ∧ forF (fun l x => (pm x).bind (mb l)) (ds.drop j) l = some z, ⟨ds.length, rfl, Nat.zero_le _, Mono.refl H, l0, E, hz⟩, ?_⟩
  rintro j m σ' H' ⟨rfl, hj, mo, l, E', hz'⟩
  by_cases hlt : j < ds.length
  · right
    have hd : ds[j]? = some ds[j] := List.getElem?_eq_getElem hlt
    rw [List.drop_eq_getElem_cons hlt] at hz'
    obtain ⟨o1, e1, e2⟩ := Option.bind_eq_some_iff.mp hz'
    obtain ⟨p, e3, e4⟩ := Option.bind_eq_some_iff.mp e1
    refine ⟨i.goes j H' hlt (i.stays H H' g mo), fun σ'' H'' => Mono H H'' ∧ ∃ l, EnvOk X.K c σ'' H'' (GL l) ∧ forF (fun l x => (pm x).bind (mb l)) (ds.drop (j + 1)) l = some z, fun σ'' H'' ⟨m2, l2, E2, h2⟩ => ⟨ds.length - (j + 1), by omega, rfl, hlt, m2, l2, E2, h2⟩, fun x H2 y => ?_⟩
    obtain ⟨s2, r2⟩ := i.yields j H' x H2 _ hd (i.stays H H' g mo) y
    refine ht l _ p e3 x σ' H2 _ (E'.same s2) r2 fun σ3 E3 _ => hb l p o1 e4 σ3 H2 _ E3 ?_
    have m12 : Mono H H2 := mo.trans (.of_same s2)
    cases o1 with
    | nx l' => exact ⟨(fun n' e σ' H' E m => by cases e; exact ⟨m12.trans m, l', E, e2⟩), (fun b e => nomatch e), (fun b e => nomatch e), (fun b e => nomatch e)⟩
    | ct l' => exact ⟨(fun b e => nomatch e), (fun b e => nomatch e), (fun n' e σ' H' E m => by cases e; exact ⟨m12.trans m, l', E, e2⟩), (fun b e => nomatch e)⟩
    | bk l' =>
      cases e2
      exact ⟨(fun b e => nomatch e), (fun n' e σ' H' E m => by cases e; exact hr l' o ho σ' H' D E (f.mono (m12.trans m))), (fun b e => nomatch e), (fun b e => nomatch e)⟩
    | rt r =>
      cases e2
      cases ho
      exact ⟨(fun b e => nomatch e), (fun b e => nomatch e), (fun b e => nomatch e), (fun b' e => by cases e; exact f.rt r rfl)⟩
  · left
    have e : j = ds.length := by omega
    subst e
    rw [List.drop_length] at hz'
    cases hz'
    exact ⟨i.stops H' (i.stays H H' g mo), hr l o ho σ' H' D E' (f.mono mo)⟩
theorem db_for {L P : Type} (GL : L → Env_) (l0 : L) {js : List Nat} {tg iter : Expr} {body : List Stmt} {pm : D → Option P} {Gt : L → P → Env_} {mi : Option (List D)} {mb : L → P → Option (Fl L L R)} {mr : L → Option (Fl N B R)} {pos : Pos} (hc : X.calm = true) (hx : X.xe = fun _ _ => False) (hi : DI X c Γ tg iter mi) (hl : EnvLe Γ (GL l0))
    (ht : ∀ l, DG X c js (GL l) tg pm (Gt l)) (hb : ∀ l p, DB X c GL GL RK (Gt l p) body (mb l p)) (hr : ∀ l, DB X c GN GB RK (GL l) rest (mr l)) (hp : pinsIn (c.M.map (·.1)) (GL l0) = true := by rfl) (hs : ∀ x, foldedSetIterable iter X.env x = pure x := by intro _; rfl) :
    DB X c GN GB RK Γ (.For tg iter body [] pos :: rest) ((mi.bind fun its => forF (fun l x => (pm x).bind (mb l)) its l0).bind (seqLp mr)) := fun o h σ H D E f => by
  obtain ⟨z, e1, e2⟩ := Option.bind_eq_some_iff.mp h
  obtain ⟨ds, e3, e4⟩ := Option.bind_eq_some_iff.mp e1
  have hpo : PassesOwn (model X.prog X.w) X.A X.env X.xe := by rw [hx]; exact PassesOwn.never
  refine sSs_cons (ps_for hpo hc (pi_s tg iter) (pg_s tg) (pss_s body) hs) (hi ds e3 σ H _ E fun J H1 Gd s1 i g => ?_)
  exact for_core ht hb hr e4 e2 i g ((E.same s1).le hl (pinsIn_iff hp)) (f.mono (.of_same s1))
/-! while -/
def whileF {L R : Type} (t : L → Option Bool) (f : L → Option (Fl L L R)) : Nat → L → Option (Lp L R)
  | 0, _ => none
  | n + 1, l => (t l).bind fun b => if b then (f l).bind fun o => match o with
    | .nx l' => whileF t f n l'
    | .ct l' => whileF t f n l'
    | .bk l' => some (.nx l')
    | .rt z => some (.rt z)
    else some (.nx l)
theorem db_while {L : Type} (GL : L → Env_) (l0 : L) (fuel : Nat) {t : Expr} {body : List Stmt} {mt : L → Option Bool} {mb : L → Option (Fl L L R)} {mr : L → Option (Fl N B R)} {pos : Pos} (hx : X.xe = fun _ _ => False) (hl : EnvLe Γ (GL l0))
    (ht : ∀ l, DT X c (GL l) t (mt l)) (hb : ∀ l, DB X c GL GL RK (GL l) body (mb l)) (hr : ∀ l, DB X c GN GB RK (GL l) rest (mr l)) (hp : pinsIn (c.M.map (·.1)) (GL l0) = true := by rfl) :
    DB X c GN GB RK Γ (.While t body [] pos :: rest) ((whileF mt mb fuel l0).bind (seqLp mr)) := fun o h σ H D E f => by
  obtain ⟨z, e1, e2⟩ := Option.bind_eq_some_iff.mp h
  have hpo : PassesOwn (model X.prog X.w) X.A X.env X.xe := by rw [hx]; exact PassesOwn.never
  refine sSs_cons (ps_while hpo (pt_s t) (pss_s body)) ⟨fun n σ' H' => Mono H H' ∧ ∃ l, EnvOk X.K c σ' H' (GL l) ∧ whileF mt mb n l = some z, ⟨fuel, Mono.refl H, l0, E.le hl (pinsIn_iff hp), e1⟩, ?_⟩
  rintro n σ' H' ⟨mo, l, E', hz⟩
  cases n with
  | zero => cases hz
  | succ n =>
    obtain ⟨b, e3, e4⟩ := Option.bind_eq_some_iff.mp hz
    refine ht l b e3 σ' H' _ E' fun H1 s1 => ?_
    have m1 : Mono H H1 := mo.trans (.of_same s1)
    cases b with
    | false =>
      rw [if_neg Bool.false_ne_true] at e4
      cases e4
      exact iteF (hr l o e2 σ' H1 D (E'.same s1) (f.mono m1))
    | true =>
      rw [if_pos rfl] at e4
      obtain ⟨o1, e5, e6⟩ := Option.bind_eq_some_iff.mp e4
      refine iteT ⟨fun σ'' H'' => Mono H H'' ∧ ∃ l, EnvOk X.K c σ'' H'' (GL l) ∧ whileF mt mb n l = some z, fun σ'' H'' q => ⟨n, Nat.lt_succ_self n, q⟩, hb l o1 e5 σ' H1 _ (E'.same s1) ?_⟩
      cases o1 with
      | nx l' => exact ⟨(fun n' e σ' H' E m => by cases e; exact ⟨m1.trans m, l', E, e6⟩), (fun b e => nomatch e), (fun b e => nomatch e), (fun b e => nomatch e)⟩
      | ct l' => exact ⟨(fun b e => nomatch e), (fun b e => nomatch e), (fun n' e σ' H' E m => by cases e; exact ⟨m1.trans m, l', E, e6⟩), (fun b e => nomatch e)⟩
      | bk l' =>
        cases e6
        exact ⟨(fun b e => nomatch e), (fun n' e σ' H' E m => by cases e; exact hr l' o e2 σ' H' D E (f.mono (m1.trans m))), (fun b e => nomatch e), (fun b e => nomatch e)⟩
      | rt r =>
        cases e6
        cases e2
        exact ⟨(fun b e => nomatch e), (fun b e => nomatch e), (fun b e => nomatch e), (fun b' e => by cases e; exact f.rt r rfl)⟩
/-! lists that slots hold -/
/-- xs.append(e) -/
def appD (ds : List D) (d : D) : Option (List D) := if ds.length < 100000 then some (ds ++ [d]) else none
theorem db_append (i : Nat) {ds : List D} {x : Str} {e : Expr} {me : Option D} {mr : List D → Option (Fl N B R)} {pos p1 p2 p3 : Pos} (h : Γ[i]? = some (.own ds) := by rfl) (he : DE X c Γ e me) (hr : ∀ es, DB X c GN GB RK (Γ.set i (.own es)) rest (mr es)) (hN : X.N[i]? = some x := by rfl) (hv : Vis X.env.scope x := by first | exact Or.inl rfl | exact Or.inr (Or.inl rfl) | exact Or.inr (Or.inr rfl))
    (na : starEach [e] X.env = (false, eval e X.env) :: starEach [] X.env := by rfl)
    (hfew : ((backTo p3 (starEach [e] X.env)).all (fun x => !x.1) && (backToKw p3 (keywordEach [] X.env)).all (fun x => x.1.isSome) && decide (([e] : List Expr).length + ([] : List Keyword).length + (if ([] : List Keyword).isEmpty then 0 else 1) < 30)) = true := by rfl)
    (hs : swapsWith (.Call (.Attribute (.Name x p1) "append" p2) [e] [] p3) none pos.line X.env = pure false := by rfl) (hb : attributeBase (.Name x p1) "append" X.env (eval (.Name x p1) X.env) = eval (.Name x p1) X.env := by rfl) (hln : (p2.endLine == p3.line) = true := by rfl) (hd : (x == ("__debug__" : Str)) = false := by decide) (hcd : (x == ("__classdict__" : Str)) = false := by decide) :
    DB X c GN GB RK Γ (.Expr (.Call (.Attribute (.Name x p1) "append" p2) [e] [] p3) pos :: rest) ((me.bind (appD ds)).bind mr) := fun o h' σ H D E f => by
  obtain ⟨es, e0, e2⟩ := Option.bind_eq_some_iff.mp h'
  obtain ⟨d, e1, e3⟩ := Option.bind_eq_some_iff.mp e0
  unfold appD at e3
  split at e3
  · rename_i hz
    cases e3
    refine sSs_cons (ps_expr (pe_bm PySem.F.plainAttrs_list PySem.F.slot_list_append PySem.F.type_list_append mt_append (pe_var hN hv hd hcd) (pa_cons (pe_s e) pa_nil na) (hbase := hb) (hfew := hfew) (hline := hln) (hs := na)) hs) ?_
    obtain ⟨a, xs, ea, ha, r⟩ := E.ownAt h
    refine ⟨_, ea, .inl ⟨rfl, _, .inl (.inl ha)⟩, he d e1 σ H _ E fun v H1 s1 r1 => ⟨a, xs, v, rfl, rfl, s1 _ _ ha, ?_, ?_⟩⟩
    · rw [r.length]
      exact Nat.lt_of_lt_of_le hz (by decide)
    · have mo : Mono H1 (upd H1 a (.lst (xs ++ [v]))) := ⟨fun b zs hb => by rw [upd_ne (ne_of hb (s1 _ _ ha) (by intro z; cases z))]; exact hb, fun b o u hb => by rw [upd_ne (ne_of hb (s1 _ _ ha) (by intro z; cases z))]; exact hb⟩
      have E1 := (E.same s1).write (es := ds ++ [d]) (ys := xs ++ [v]) h ea (H' := upd H1 a (.lst (xs ++ [v]))) (fun b o hb hne => by rw [upd_ne hne]; exact hb) upd_same (((r.mono (.of_same s1)).snoc r1).mono mo)
      exact hr _ o e2 σ _ D E1 (f.mono ((Mono.of_same s1).trans mo))
  · cases e3
end
end DL

set_option Elab.async false
set_option linter.all false
set_option maxRecDepth 100000
set_option maxHeartbeats 2000000
set_option autoImplicit false
namespace DL
open PySem PySem.Spec PyProof.Rows L2
/-! ### what a name is given: a value that stands still, a new list, a new dict -/
inductive Kd : Type → Type 1 where
  | imm : Kd D
  | own : Kd (List D)
  | dct : Kd (List (D × D))
def Kd.cell : {α : Type} → Kd α → α → Cell
  | _, .imm, d => .imm d
  | _, .own, ds => .own ds
  | _, .dct, ds => .dct ds
def Kd.isOwn : {α : Type} → Kd α → Bool
  | _, .imm => false
  | _, .own => true
  | _, .dct => true
def Kd.has (K : Fr_) (c : FC) (Γ : Env_) (σ : St) (H : Hp) (v : V) {α : Type} (κ : Kd α) (x : α) : Prop :=
  CellOk K H (some (some v)) (κ.cell x) ∧ (κ.isOwn = true → ∀ a, v = .ref a → ¬ Owns Γ σ a ∧ c.H0 a = none)
theorem Kd.cellOwn {α : Type} {κ : Kd α} {x : α} : (κ.cell x).isOwn = κ.isOwn := by cases κ <;> rfl
theorem Kd.imm_of {K : Fr_} {c : FC} {Γ : Env_} {σ : St} {H : Hp} {v : V} {d : D} (r : Rp K H v d) : Kd.imm.has K c Γ σ H v d := ⟨⟨v, rfl, r⟩, fun z => nomatch z⟩
theorem Kd.own_of {K : Fr_} {c : FC} {Γ : Env_} {σ : St} {H : Hp} {a : Addr} {xs : List V} {ds : List D} (h : H a = some (.lst xs)) (r : RpA K H xs ds) (hn : ¬ Owns Γ σ a) (h0 : c.H0 a = none) : Kd.own.has K c Γ σ H (.ref a) ds :=
  ⟨⟨a, xs, rfl, h, r⟩, fun _ b e => by cases e; exact ⟨hn, h0⟩⟩
theorem Kd.dct_of {K : Fr_} {c : FC} {Γ : Env_} {σ : St} {H : Hp} {a : Addr} {ws : List (Key × V)} {kvs : List (D × D)} (h : H a = some (.dK ws)) (r : RpK K H ws kvs) (hn : ¬ Owns Γ σ a) (h0 : c.H0 a = none) : Kd.dct.has K c Γ σ H (.ref a) kvs :=
  ⟨⟨a, ws, rfl, h, r⟩, fun _ b e => by cases e; exact ⟨hn, h0⟩⟩
theorem Kd.put {K : Fr_} {c : FC} {Γ : Env_} {σ : St} {H : Hp} {v : V} {α : Type} {κ : Kd α} {a : α} {i : Nat} (E : EnvOk K c σ H Γ) (h : κ.has K c Γ σ H v a) (hm : ∀ p ∈ c.M, p.1 ≠ i) : EnvOk K c (σ.set i (some v)) H (Γ.set i (κ.cell a)) := by
  cases hk : κ.isOwn with
  | false =>
    cases κ with
    | imm =>
      obtain ⟨⟨w, e, r⟩, _⟩ := h
      cases e
      exact E.setImm r hm
    | own => cases hk
    | dct => cases hk
  | true =>
    obtain ⟨ad, u, e, _, _⟩ := h.1.mine (Kd.cellOwn.trans hk)
    cases e
    obtain ⟨hn, h0⟩ := h.2 hk ad rfl
    exact E.setMine h.1 hn h0 hm
/-- another value stays what it is when v is stored -/
theorem Kd.keep {K : Fr_} {c : FC} {Γ : Env_} {σ : St} {H : Hp} {v w : V} {α β : Type} {κ : Kd α} {μ : Kd β} {a : α} {b : β} {i : Nat} (E : EnvOk K c σ H Γ) (h : κ.has K c Γ σ H v a) (g : μ.has K c Γ σ H w b) (hne : κ.isOwn = true → μ.isOwn = true → v ≠ w) : μ.has K c (Γ.set i (κ.cell a)) (σ.set i (some v)) H w b := by
  refine ⟨g.1, fun ho ad ea => ?_⟩
  subst ea
  obtain ⟨hn, h0⟩ := g.2 ho ad rfl
  refine ⟨fun ⟨j, k, e1, e2, e3⟩ => ?_, h0⟩
  by_cases ej : i = j
  · subst ej
    have hk : k = κ.cell a := by
      rw [List.getElem?_set] at e1
      simp at e1
      exact e1.2.symm
    have hv : v = .ref ad := by
      rw [List.getElem?_set] at e3
      simp at e3
      exact e3.2
    subst hk
    exact hne (Kd.cellOwn.symm.trans e2) ho hv
  · rw [List.getElem?_set_ne ej] at e1 e3
    exact hn ⟨j, k, e1, e2, e3⟩
theorem Kd.step {K : Fr_} {c : FC} {Γ Γ' : Env_} {σ : St} {H H' : Hp} {w : V} {β : Type} {μ : Kd β} {b : β} (E : EnvOk K c σ H Γ) (g : μ.has K c Γ σ H w b) (s : Step Γ Γ' σ H H') : μ.has K c Γ' σ H' w b := by
  refine ⟨g.1.keep (s.mono E) fun ho a u e hu => ?_, fun ho a ea => ?_⟩
  · cases e
    exact s.1 a u hu (g.2 (Kd.cellOwn.symm.trans ho) a rfl).1
  · obtain ⟨hn, h0⟩ := g.2 ho a ea
    exact ⟨fun o => hn (s.2 _ o), h0⟩
theorem Kd.there {K : Fr_} {c : FC} {Γ : Env_} {σ : St} {H : Hp} {w : V} {β : Type} {μ : Kd β} {b : β} (g : μ.has K c Γ σ H w b) (ho : μ.isOwn = true) : ∃ a, w = .ref a ∧ H a ≠ none := by
  obtain ⟨ad, u, e, hu, _⟩ := g.1.mine (Kd.cellOwn.trans ho)
  cases e
  exact ⟨ad, rfl, by rw [hu]; intro z; cases z⟩
section
variable (X : Cx) (c : FC) {T : Type} (G : T → Env_)
def DXK {α : Type} (κ : Kd α) (e : Expr) (m : T → Option (α × T)) : Prop := ∀ t a t', m t = some (a, t') → ∀ (σ : St) (H : Hp) (Q : VK), EnvOk X.K c σ H (G t) →
  (∀ v H', EnvOk X.K c σ H' (G t') → Step (G t) (G t') σ H H' → κ.has X.K c (G t') σ H' v a → (κ.isOwn = true → ∀ ad, v = .ref ad → H ad = none) → Q v H') → sE X e σ H Q
end
section
variable {X : Cx} {c : FC} {T : Type} {G : T → Env_}
theorem dxk_imm {e : Expr} {m : T → Option (D × T)} (h : DX X c G e m) : DXK X c G .imm e m := fun t a t' hm σ H Q E k => h t a t' hm σ H Q E fun v H' E' s r => k v H' E' s (Kd.imm_of r) fun z => nomatch z
theorem dxk_own {e : Expr} {m : T → Option (List D × T)} (h : DXF X c G e m) : DXK X c G .own e m := fun t a t' hm σ H Q E k => h t a t' hm σ H Q E fun ad H' xs hn E' s ha r =>
  k _ H' E' s (Kd.own_of ha r (fun o => E.notOwn hn (s.2 _ o)) (E.fresh0 hn)) fun _ b e => by cases e; exact hn
variable {N B R : Type} {GN : N → Env_} {GB : B → Env_} {RK : R → V → Hp → Prop} {rest : List Stmt}
/-! statements -/
theorem dbx_asg {α : Type} (κ : Kd α) (i : Nat) {x : Str} {e : Expr} {m : T → Option (α × T)} {mr : α × T → Option (Fl N B R)} {pos pos' : Pos} {t : T} (hN : X.N.Nodup) (he : DXK X c G κ e m) (hr : ∀ q : α × T, DB X c GN GB RK ((G q.2).set i (κ.cell q.1)) rest (mr q)) (hi : X.N[i]? = some x := by rfl) (hx : Loc X.env.scope x := by first | exact Or.inl rfl | exact Or.inr rfl)
    (hm : (c.M.map (·.1)).contains i = false := by rfl) (hs : swapsWith e (some (.Name x pos')) pos.line X.env = pure false := by rfl) (hf : X.fn x = true ∨ X.env.scope.names.lookup x = some .local := by first | exact .inl rfl | exact .inr rfl) :
    DB X c GN GB RK (G t) (.Assign [.Name x pos'] e pos :: rest) ((m t).bind mr) := fun o h σ H D E f => by
  obtain ⟨⟨d, t'⟩, e1, e2⟩ := Option.bind_eq_some_iff.mp h
  exact sSs_cons (ps_set hN hi hx (pe_s e) hs hf) (he t d t' e1 σ H _ E fun v H1 E1 s1 r1 _ => hr (d, t') o e2 _ H1 D (Kd.put E1 r1 (noPin hm)) (f.mono (s1.mono E)))
theorem dbx_unp {P : Type} {js : List Nat} {tg e : Expr} {m : T → Option (D × T)} {pm : D → Option P} {Gt : T → P → Env_} {mr : P × T → Option (Fl N B R)} {pos : Pos} {t : T} (he : DX X c G e m) (ht : ∀ t', DG X c js (G t') tg pm (Gt t')) (hr : ∀ q : P × T, DB X c GN GB RK (Gt q.2 q.1) rest (mr q))
    (hs : swapsWithSole [tg] e pos.line X.env = pure false := by rfl) (hw : swappedStores [tg] e X.env = pure none := by rfl) (h1 : (assignEach [tg] X.env).map (·.2) = [assign tg X.env] := by rfl) : DB X c GN GB RK (G t) (.Assign [tg] e pos :: rest) ((bindX m pm t).bind mr) := fun o h σ H D E f => by
  obtain ⟨⟨p, t'⟩, e0, e2⟩ := Option.bind_eq_some_iff.mp h
  obtain ⟨d, e1, e3⟩ := bindX_eq e0
  exact sSs_cons (ps_asg (pe_s e) (pg_s tg) hs hw h1) (he t d t' e1 σ H _ E fun v H1 E1 s1 r1 => ht t' d p e3 v σ H1 _ E1 (.st r1) fun σ' E' _ => hr (p, t') o e2 _ H1 D E' (f.mono (s1.mono E)))
def two {α β : Type} (a : T → Option (α × T)) (b : T → Option (β × T)) : T → Option ((α × β) × T) := fun t => (a t).bind fun p => (b p.2).map fun q => ((p.1, q.1), q.2)
def three {α β γ : Type} (a : T → Option (α × T)) (b : T → Option (β × T)) (d : T → Option (γ × T)) : T → Option ((α × β × γ) × T) := fun t => (a t).bind fun p => (b p.2).bind fun q => (d q.2).map fun r => ((p.1, q.1, r.1), r.2)
/-- a, b = e1, e2 -/
theorem dbx_par {α β : Type} (κ : Kd α) (μ : Kd β) (i j : Nat) {x y : Str} {a b : Expr} {ma : T → Option (α × T)} {mb : T → Option (β × T)} {mr : (α × β) × T → Option (Fl N B R)} {px py pt pos : Pos} {kt k2 : Nat} {pt2 : Pos} {t : T} (hc : X.calm = true) (hN : X.N.Nodup)
    (ha : DXK X c G κ a ma) (hb : DXK X c G μ b mb) (hr : ∀ q : (α × β) × T, DB X c GN GB RK (((G q.2).set i (κ.cell q.1.1)).set j (μ.cell q.1.2)) rest (mr q)) (hi : X.N[i]? = some x := by rfl) (hj : X.N[j]? = some y := by rfl) (hij : i ≠ j := by decide)
    (hm : (c.M.map (·.1)).contains i = false := by rfl) (hm' : (c.M.map (·.1)).contains j = false := by rfl) (hx : X.env.scope.names.lookup x = some .local := by rfl) (hy : X.env.scope.names.lookup y = some .local := by rfl)
    (hw : swappedStores [.Tuple [.Name x px, .Name y py] kt pt] (.Tuple [a, b] k2 pt2) X.env = pure (some [x, y]) := by rfl) (hs : swapsWithSole [.Tuple [.Name x px, .Name y py] kt pt] (.Tuple [a, b] k2 pt2) pos.line X.env = pure false := by rfl) (na : NoStar X [a, b] := by exact ⟨rfl, rfl, trivial⟩) :
    DB X c GN GB RK (G t) (.Assign [.Tuple [.Name x px, .Name y py] kt pt] (.Tuple [a, b] k2 pt2) pos :: rest) ((two ma mb t).bind mr) := fun o h σ H D E f => by
  obtain ⟨⟨⟨u, w⟩, t'⟩, e0, e2⟩ := Option.bind_eq_some_iff.mp h
  obtain ⟨⟨u', t1⟩, e3, e4⟩ := Option.bind_eq_some_iff.mp e0
  obtain ⟨⟨w', t2⟩, e5, e6⟩ := Option.map_eq_some_iff.mp e4
  cases e6
  refine sSs_cons (ps_par hc hN hi hj hij hx hy (pa_s na) hw hs) ?_
  refine ha t _ t1 e3 σ H _ E fun v H1 E1 s1 r1 n1 => hb t1 _ _ e5 σ H1 _ E1 fun v2 H2 E2 s2 r2 n2 => ⟨v, v2, rfl, ?_⟩
  have r1' := Kd.step E1 r1 s2
  refine hr _ o e2 _ H2 D (Kd.put (Kd.put E2 r1' (noPin hm)) (Kd.keep E2 r1' r2 fun z1 z2 => ?_) (noPin hm')) (f.mono ((s1.trans s2).mono E))
  obtain ⟨ad, ea, ha'⟩ := Kd.there r1 z1
  intro z
  exact ha' (n2 z2 ad (z ▸ ea))
theorem dbx_par3 {α β γ : Type} (κ : Kd α) (μ : Kd β) (ν : Kd γ) (i j l : Nat) {x y z : Str} {a b d : Expr} {ma : T → Option (α × T)} {mb : T → Option (β × T)} {md : T → Option (γ × T)} {mr : (α × β × γ) × T → Option (Fl N B R)} {px py pz pt pos : Pos} {kt k2 : Nat} {pt2 : Pos} {t : T} (hc : X.calm = true) (hN : X.N.Nodup)
    (ha : DXK X c G κ a ma) (hb : DXK X c G μ b mb) (hd : DXK X c G ν d md) (hr : ∀ q : (α × β × γ) × T, DB X c GN GB RK ((((G q.2).set i (κ.cell q.1.1)).set j (μ.cell q.1.2.1)).set l (ν.cell q.1.2.2)) rest (mr q)) (hi : X.N[i]? = some x := by rfl) (hj : X.N[j]? = some y := by rfl) (hl : X.N[l]? = some z := by rfl) (hij : i ≠ j := by decide) (hil : i ≠ l := by decide) (hjl : j ≠ l := by decide)
    (hm : (c.M.map (·.1)).contains i = false := by rfl) (hm' : (c.M.map (·.1)).contains j = false := by rfl) (hm'' : (c.M.map (·.1)).contains l = false := by rfl) (hx : X.env.scope.names.lookup x = some .local := by rfl) (hy : X.env.scope.names.lookup y = some .local := by rfl) (hz : X.env.scope.names.lookup z = some .local := by rfl)
    (hw : swappedStores [.Tuple [.Name x px, .Name y py, .Name z pz] kt pt] (.Tuple [a, b, d] k2 pt2) X.env = pure (some [x, y, z]) := by rfl) (hs : swapsWithSole [.Tuple [.Name x px, .Name y py, .Name z pz] kt pt] (.Tuple [a, b, d] k2 pt2) pos.line X.env = pure false := by rfl) (na : NoStar X [a, b, d] := by exact ⟨rfl, rfl, rfl, trivial⟩) :
    DB X c GN GB RK (G t) (.Assign [.Tuple [.Name x px, .Name y py, .Name z pz] kt pt] (.Tuple [a, b, d] k2 pt2) pos :: rest) ((three ma mb md t).bind mr) := fun o h σ H D E f => by
  obtain ⟨⟨⟨u, w, q⟩, t'⟩, e0, e2⟩ := Option.bind_eq_some_iff.mp h
  obtain ⟨⟨u', t1⟩, e3, e4⟩ := Option.bind_eq_some_iff.mp e0
  obtain ⟨⟨w', t2⟩, e5, e6⟩ := Option.bind_eq_some_iff.mp e4
  obtain ⟨⟨q', t3⟩, e7, e8⟩ := Option.map_eq_some_iff.mp e6
  cases e8
  refine sSs_cons (ps_par3 hc hN hi hj hl hij hil hjl hx hy hz (pa_s na) hw hs) ?_
  refine ha t _ t1 e3 σ H _ E fun v H1 E1 s1 r1 n1 => hb t1 _ t2 e5 σ H1 _ E1 fun v2 H2 E2 s2 r2 n2 => hd t2 _ _ e7 σ H2 _ E2 fun v3 H3 E3 s3 r3 n3 => ⟨v, v2, v3, rfl, ?_⟩
  have r1' := Kd.step E1 r1 s2
  have r1'' := Kd.step E2 r1' s3
  have r2' := Kd.step E2 r2 s3
  have d12 : κ.isOwn = true → μ.isOwn = true → v ≠ v2 := fun z1 z2 => by
    obtain ⟨ad, ea, ha'⟩ := Kd.there r1 z1
    intro z
    exact ha' (n2 z2 ad (z ▸ ea))
  have d13 : κ.isOwn = true → ν.isOwn = true → v ≠ v3 := fun z1 z2 => by
    obtain ⟨ad, ea, ha'⟩ := Kd.there r1' z1
    intro z
    exact ha' (n3 z2 ad (z ▸ ea))
  have d23 : μ.isOwn = true → ν.isOwn = true → v2 ≠ v3 := fun z1 z2 => by
    obtain ⟨ad, ea, ha'⟩ := Kd.there r2 z1
    intro z
    exact ha' (n3 z2 ad (z ▸ ea))
  have k2 := Kd.keep (i := i) E3 r1'' r2' d12
  have k3 := Kd.keep (i := i) E3 r1'' r3 d13
  have P1 := Kd.put E3 r1'' (noPin hm)
  exact hr _ o e2 _ H3 D (Kd.put (Kd.put P1 k2 (noPin hm')) (Kd.keep P1 k2 k3 d23) (noPin hm'')) (f.mono (((s1.trans s2).trans s3).mono E))
theorem dbx_expr {e : Expr} {m : T → Option (D × T)} {mr : D × T → Option (Fl N B R)} {pos : Pos} {t : T} (he : DX X c G e m) (hr : ∀ q : D × T, DB X c GN GB RK (G q.2) rest (mr q)) (hs : swapsWith e none pos.line X.env = pure false := by rfl) : DB X c GN GB RK (G t) (.Expr e pos :: rest) ((m t).bind mr) := fun o h σ H D E f => by
  obtain ⟨⟨d, t'⟩, e1, e2⟩ := Option.bind_eq_some_iff.mp h
  exact sSs_cons (ps_expr (pe_s e) hs) (he t d t' e1 σ H _ E fun v H1 E1 s1 r1 => hr (d, t') o e2 _ H1 D E1 (f.mono (s1.mono E)))
theorem dbx_ret {e : Expr} {m : T → Option (D × T)} {g : D × T → R} {pos : Pos} {t : T} (he : DX X c G e m) (hg : ∀ d t' v σ H, EnvOk X.K c σ H (G t') → Rp X.K H v d → RK (g (d, t')) v H) : DB X c GN GB RK (G t) (.Return (some e) pos :: rest) ((m t).map fun p => .rt (g p)) := fun o h σ H D E f => by
  obtain ⟨⟨d, t'⟩, e1, rfl⟩ := Option.map_eq_some_iff.mp h
  exact sSs_cons (ps_ret (pe_s e)) (he t d t' e1 σ H _ E fun v H1 E1 s1 r1 => f.rt _ rfl v H1 (hg d t' v σ H1 E1 r1))
theorem dbx_retF {e : Expr} {m : T → Option (List D × T)} {g : List D × T → R} {pos : Pos} {t : T} (he : DXF X c G e m) (hg : ∀ d t' a xs σ H, EnvOk X.K c σ H (G t') → c.H0 a = none → (∀ p ∈ c.M, p.2 ≠ a) → H a = some (.lst xs) → RpA X.K H xs d → RK (g (d, t')) (.ref a) H) : DB X c GN GB RK (G t) (.Return (some e) pos :: rest) ((m t).map fun p => .rt (g p)) := fun o h σ H D E f => by
  obtain ⟨⟨d, t'⟩, e1, rfl⟩ := Option.map_eq_some_iff.mp h
  refine sSs_cons (ps_ret (pe_s e)) (he t d t' e1 σ H _ E fun a H1 xs hn E1 s1 ha r1 => f.rt _ rfl _ H1 (hg d t' a xs σ H1 E1 (E.fresh0 hn) (fun p hp e => ?_) ha r1))
  obtain ⟨h1, k, h2, h3⟩ := E.pins p hp
  obtain ⟨ys, z, _⟩ := E.owned ⟨p.1, k, h2, h3, h1⟩
  rw [e, hn] at z
  cases z
theorem dbx_if {N1 : Type} (G1 : N1 → Env_) {te : Expr} {a b : List Stmt} {mt : T → Option (Bool × T)} {ma mb : Bool × T → Option (Fl N1 B R)} {mr : N1 → Option (Fl N B R)} {pos : Pos} {t : T} (ht : DXT X c G te mt) (ha : ∀ q : Bool × T, DB X c G1 GB RK (G q.2) a (ma q)) (hb : ∀ q : Bool × T, DB X c G1 GB RK (G q.2) b (mb q)) (hr : ∀ n, DB X c GN GB RK (G1 n) rest (mr n)) :
    DB X c GN GB RK (G t) (.If te a b pos :: rest) (((mt t).bind fun p => if p.1 then ma p else mb p).bind (seqFl mr)) := fun o h σ H D E f => by
  obtain ⟨o1, e1, e2⟩ := Option.bind_eq_some_iff.mp h
  obtain ⟨⟨x, t'⟩, e3, e4⟩ := Option.bind_eq_some_iff.mp e1
  refine sSs_cons (ps_if (pt_s te) (pss_s a) (pss_s b)) (ht t x t' e3 σ H _ E fun H1 E1 s1 => ?_)
  cases x with
  | true => exact iteT (ha (true, t') o1 e4 σ H1 _ E1 (seq_fin e2 hr (f.mono (s1.mono E))))
  | false => exact iteF (hb (false, t') o1 e4 σ H1 _ E1 (seq_fin e2 hr (f.mono (s1.mono E))))
theorem dbx_for {L P : Type} (GL : L → Env_) (l0 : T → L) {js : List Nat} {tg iter : Expr} {body : List Stmt} {pm : D → Option P} {Gt : L → P → Env_} {mi : T → Option (List D × T)} {mb : L → P → Option (Fl L L R)} {mr : L → Option (Fl N B R)} {pos : Pos} {t : T} (hc : X.calm = true) (hx : X.xe = fun _ _ => False) (hi : DXI X c G tg iter mi) (hl : ∀ t', EnvLe (G t') (GL (l0 t')))
    (ht : ∀ l, DG X c js (GL l) tg pm (Gt l)) (hb : ∀ l p, DB X c GL GL RK (Gt l p) body (mb l p)) (hr : ∀ l, DB X c GN GB RK (GL l) rest (mr l)) (hp : ∀ t', pinsIn (c.M.map (·.1)) (GL (l0 t')) = true := by intro _; rfl) (hs : ∀ x, foldedSetIterable iter X.env x = pure x := by intro _; rfl) :
    DB X c GN GB RK (G t) (.For tg iter body [] pos :: rest) (((mi t).bind fun q => forF (fun l x => (pm x).bind (mb l)) q.1 (l0 q.2)).bind (seqLp mr)) := fun o h σ H D E f => by
  obtain ⟨z, e1, e2⟩ := Option.bind_eq_some_iff.mp h
  obtain ⟨⟨ds, t'⟩, e3, e4⟩ := Option.bind_eq_some_iff.mp e1
  have hpo : PassesOwn (model X.prog X.w) X.A X.env X.xe := by rw [hx]; exact PassesOwn.never
  refine sSs_cons (ps_for hpo hc (pi_s tg iter) (pg_s tg) (pss_s body) hs) (hi t ds t' e3 σ H _ E fun J H1 Gd E1 s1 i g => ?_)
  exact for_core ht hb hr e4 e2 i g (E1.le (hl t') (pinsIn_iff (hp t'))) (f.mono (s1.mono E))
def bindX' {α β : Type} (m : T → Option (α × T)) (g : α → T → Option β) : T → Option (β × T) := fun t => (m t).bind fun p => (g p.1 p.2).map fun z => (z, p.2)
theorem dbx_append (ds : T → List D) {x : Str} {e : Expr} {m : T → Option (D × T)} {mr : List D × T → Option (Fl N B R)} {pos p1 p2 p3 : Pos} {t : T} (j : Nat) (he : DX X c G e m) (h : ∀ t', (G t')[j]? = some (.own (ds t'))) (hr : ∀ q : List D × T, DB X c GN GB RK ((G q.2).set j (.own q.1)) rest (mr q)) (hN : X.N[j]? = some x := by rfl) (hv : Vis X.env.scope x := by first | exact Or.inl rfl | exact Or.inr (Or.inl rfl) | exact Or.inr (Or.inr rfl))
    (na : starEach [e] X.env = (false, eval e X.env) :: starEach [] X.env := by rfl)
    (hfew : ((backTo p3 (starEach [e] X.env)).all (fun x => !x.1) && (backToKw p3 (keywordEach [] X.env)).all (fun x => x.1.isSome) && decide (([e] : List Expr).length + ([] : List Keyword).length + (if ([] : List Keyword).isEmpty then 0 else 1) < 30)) = true := by rfl)
    (hs : swapsWith (.Call (.Attribute (.Name x p1) "append" p2) [e] [] p3) none pos.line X.env = pure false := by rfl) (hb : attributeBase (.Name x p1) "append" X.env (eval (.Name x p1) X.env) = eval (.Name x p1) X.env := by rfl) (hln : (p2.endLine == p3.line) = true := by rfl) (hd : (x == ("__debug__" : Str)) = false := by decide) (hcd : (x == ("__classdict__" : Str)) = false := by decide) :
    DB X c GN GB RK (G t) (.Expr (.Call (.Attribute (.Name x p1) "append" p2) [e] [] p3) pos :: rest) ((bindX' m (fun d t' => appD (ds t') d) t).bind mr) := fun o h' σ H D E f => by
  obtain ⟨⟨es, t'⟩, e0, e2⟩ := Option.bind_eq_some_iff.mp h'
  obtain ⟨⟨d, t1⟩, e1, e3⟩ := Option.bind_eq_some_iff.mp e0
  obtain ⟨es', e4, e5⟩ := Option.map_eq_some_iff.mp e3
  cases e5
  replace e4 : appD (ds t1) d = some es := e4
  unfold appD at e4
  split at e4
  · rename_i hz
    cases e4
    refine sSs_cons (ps_expr (pe_bm PySem.F.plainAttrs_list PySem.F.slot_list_append PySem.F.type_list_append mt_append (pe_var hN hv hd hcd) (pa_cons (pe_s e) pa_nil na) (hbase := hb) (hfew := hfew) (hline := hln) (hs := na)) hs) ?_
    obtain ⟨a, xs, ea, ha, r⟩ := E.ownAt (h t)
    refine ⟨_, ea, .inl ⟨rfl, _, .inl (.inl ha)⟩, he t d _ e1 σ H _ E fun v H1 E1 s1 r1 => ?_⟩
    obtain ⟨a', ys, ea', ha', r'⟩ := E1.ownAt (h _)
    rw [ea] at ea'
    cases ea'
    refine ⟨a, ys, v, rfl, rfl, ha', ?_, ?_⟩
    · rw [r'.length]
      exact Nat.lt_of_lt_of_le hz (by decide)
    · have mo : Mono H1 (upd H1 a (.lst (ys ++ [v]))) := ⟨fun b zs hb => by rw [upd_ne (ne_of hb ha' (by intro z; cases z))]; exact hb, fun b o u hb => by rw [upd_ne (ne_of hb ha' (by intro z; cases z))]; exact hb⟩
      have E2 := E1.write (es := ds _ ++ [d]) (ys := ys ++ [v]) (h _) ea (H' := upd H1 a (.lst (ys ++ [v]))) (fun b o hb hne => by rw [upd_ne hne]; exact hb) upd_same ((r'.snoc r1).mono mo)
      exact hr _ o e2 σ _ D E2 (f.mono ((s1.mono E).trans mo))
  · cases e4
end
end DL

set_option Elab.async false
set_option linter.all false
set_option maxRecDepth 100000
set_option maxHeartbeats 2000000
set_option autoImplicit false
namespace DL
open PySem PySem.Spec PyProof.Rows L2
section
variable {X : Cx} {c : FC} {Γ : Env_} {N B R : Type} {GN : N → Env_} {GB : B → Env_} {RK : R → V → Hp → Prop} {rest : List Stmt}
/-! xs[i] = e -/
def setD (ds : List D) (i d : D) : Option (List D) := (isI i).bind fun k => (ixN ds.length k).map fun j => ds.set j d
theorem set_core {σ : St} {H : Hp} {j : Nat} {ds es : List D} {d q : D} {v w : V} {a : Addr} {xs : List V} {Q : Hp → Prop} (E : EnvOk X.K c σ H Γ) (h : Γ[j]? = some (.own ds)) (ea : σ[j]? = some (some (.ref a))) (ha : H a = some (.lst xs)) (r : RpA X.K H xs ds) (rv : Rp X.K H v d) (rw_ : Rp X.K H w q)
    (e : setD ds q d = some es) (k : ∀ H', Mono H H' → EnvOk X.K c σ H' (Γ.set j (.own es)) → Q H') : rSetL (.ref a) w v H Q := by
  obtain ⟨kk, e1, e2⟩ := Option.bind_eq_some_iff.mp e
  obtain ⟨jj, e3, rfl⟩ := Option.map_eq_some_iff.mp e2
  have e4 := isI_eq e1
  subst e4
  refine ⟨a, xs, kk, jj, rfl, RpW.int (.st rw_), ha, by rw [r.length]; exact e3, ?_⟩
  have mo : Mono H (upd H a (.lst (xs.set jj v))) := ⟨fun b zs hb => by rw [upd_ne (ne_of hb ha (by intro z; cases z))]; exact hb, fun b o u hb => by rw [upd_ne (ne_of hb ha (by intro z; cases z))]; exact hb⟩
  exact k _ mo (E.write (es := ds.set jj d) (ys := xs.set jj v) h ea (H' := upd H a (.lst (xs.set jj v))) (fun b o hb hne => by rw [upd_ne hne]; exact hb) upd_same ((RpA.set rv jj r).mono mo))
theorem db_set (j : Nat) {ds : List D} {x : Str} {e i : Expr} {me mi : Option D} {mr : List D → Option (Fl N B R)} {pos p1 p2 : Pos} (he : DE X c Γ e me) (hi : DE X c Γ i mi) (hr : ∀ es, DB X c GN GB RK (Γ.set j (.own es)) rest (mr es)) (h : Γ[j]? = some (.own ds) := by rfl) (hN : X.N[j]? = some x := by rfl) (hv : Vis X.env.scope x := by first | exact Or.inl rfl | exact Or.inr (Or.inl rfl) | exact Or.inr (Or.inr rfl))
    (hs : swapsWithSole [.Subscript (.Name x p1) i p2] e pos.line X.env = pure false := by rfl) (hw : swappedStores [.Subscript (.Name x p1) i p2] e X.env = pure none := by rfl) (h1 : (assignEach [.Subscript (.Name x p1) i p2] X.env).map (·.2) = [assign (.Subscript (.Name x p1) i p2) X.env] := by rfl)
    (ha : ∀ v, assign (.Subscript (.Name x p1) i p2) X.env v = (do
      let ov ← holding [v] (eval (.Name x p1) X.env)
      let iv ← holding [v, ov] (eval i X.env)
      standAt p2
      holding [v, ov, iv] (setItem ov iv v)
      release [v, ov, iv] []) := by intro _; rfl) (hd : (x == ("__debug__" : Str)) = false := by decide) (hcd : (x == ("__classdict__" : Str)) = false := by decide) :
    DB X c GN GB RK Γ (.Assign [.Subscript (.Name x p1) i p2] e pos :: rest) ((me.bind fun d => mi.bind fun q => setD ds q d).bind mr) := fun o h' σ H D E f => by
  obtain ⟨es, e0, e2⟩ := Option.bind_eq_some_iff.mp h'
  obtain ⟨d, e1, e3⟩ := Option.bind_eq_some_iff.mp e0
  obtain ⟨q, e4, e5⟩ := Option.bind_eq_some_iff.mp e3
  refine sSs_cons (ps_asg (pe_s e) (pg_sub (pe_var hN hv hd hcd) (pe_s i) set_list ha) hs hw h1) (he d e1 σ H _ E fun v H1 s1 r1 => ?_)
  obtain ⟨a, xs, ea, hl, r⟩ := (E.same s1).ownAt h
  refine ⟨_, ea, hi q e4 σ H1 _ (E.same s1) fun w H2 s2 r2 => ?_⟩
  exact set_core ((E.same s1).same s2) h ea (s2 _ _ hl) (r.mono (.of_same s2)) (r1.mono (.of_same s2)) r2 e5 fun H' mo E' => hr _ o e2 σ H' D E' (f.mono ((Mono.of_same (s1.trans s2)).trans mo))
/-! a held list stands still from here on -/
theorem db_frz (i : Nat) {ds : List D} {sts : List Stmt} {m : Option (Fl N B R)} (hr : DB X c GN GB RK (Γ.set i (.imm (.list ds))) sts m) (h : Γ[i]? = some (.own ds) := by rfl) (hm : (c.M.map (·.1)).contains i = false := by rfl) : DB X c GN GB RK Γ sts m := fun o e σ H D E f => fun pins s I => by
  obtain ⟨a, xs, ea, ha, r⟩ := E.ownAt h
  obtain ⟨od, I1⟩ := I.lock ha trivial
  have hil : i < Γ.length := (List.getElem?_eq_some_iff.mp h).1
  have keep : ∀ b u, H b = some u → b ≠ a → upd H a (.frz od (.lst xs)) b = some u := fun b u hb hne => by
    rw [upd_ne hne]
    exact hb
  have mo : Mono H (upd H a (.frz od (.lst xs))) := ⟨fun b zs hb => keep b _ hb (ne_of hb ha (by intro z; cases z)), fun b o u hb => keep b _ hb (ne_of hb ha (by intro z; cases z))⟩
  have back : ∀ {j : Nat} {q : Cell}, (Γ.set i (.imm (.list ds)))[j]? = some q → q.isOwn = true → j ≠ i ∧ Γ[j]? = some q := fun {j q} h1 h2 => by
    by_cases ej : i = j
    · subst ej
      rw [List.getElem?_set_self hil] at h1
      cases h1
      cases h2
    · rw [List.getElem?_set_ne ej] at h1
      exact ⟨fun z => ej z.symm, h1⟩
  have hna : ∀ j q, j ≠ i → Γ[j]? = some q → q.isOwn = true → σ[j]? = some (some (.ref a)) → False := fun j q hj h1 h2 h3 => E.apart i j _ q a (Ne.symm hj) h rfl h1 h2 ea h3
  have E' : EnvOk X.K c σ (upd H a (.frz od (.lst xs))) (Γ.set i (.imm (.list ds))) := by
    refine ⟨fun j k hk => ?_, fun j l k q b hjl h1 h2 h3 h4 h5 h6 => E.apart j l k q b hjl (back h1 h2).2 h2 (back h3 h4).2 h4 h5 h6, fun b u hb hM => keep b u (E.pres b u hb hM) fun z => ?_, fun b ⟨j, k, h1, h2, h3⟩ => E.new b ⟨j, k, (back h1 h2).2, h2, h3⟩, fun p hp => ?_, by rw [List.length_set]; exact E.len⟩
    · by_cases ej : i = j
      · subst ej
        rw [List.getElem?_set_self hil] at hk
        cases hk
        exact ⟨_, ea, .lst (.inl ⟨od, upd_same⟩) (r.mono mo)⟩
      · rw [List.getElem?_set_ne ej] at hk
        exact (E.cells j k hk).keep mo fun ho b u e1 hb => keep b u hb fun q' => hna j k (fun z => ej z.symm) hk ho (q' ▸ e1)
    · rcases E.new a ⟨i, _, h, rfl, ea⟩ with ⟨p, hp, ep⟩ | z0
      · exact hM p hp (ep.trans z.symm)
      · rw [z, z0] at hb
        cases hb
    · obtain ⟨h1, k, h2, h3⟩ := E.pins p hp
      refine ⟨h1, k, ?_, h3⟩
      rw [List.getElem?_set_ne (Ne.symm (noPin hm p hp))]
      exact h2
  exact hr o e σ _ D E' (f.mono mo) pins s I1
/-! displays with stars -/
/-- an argument list's own meaning, stars and all -/
def sA (X : Cx) (es : List Expr) : TA := fun σ H Q => ∀ (pos : Pos) (pins : List (Addr × Obj)) (s : Shared), Inv X pins σ H s → wpAny (model X.prog X.w) X.A (spliced (backTo pos (starEach es X.env))) (AP X pins σ Q) X.xe s
theorem pa_sA (es : List Expr) : PA X es (sA X es) := ⟨fun pos pins s _ _ _ I h => h pos pins s I⟩
theorem sA_of {es : List Expr} {t : TA} {σ : St} {H : Hp} {Q : List V → Hp → Prop} (h : PA X es t) (q : t σ H Q) : sA X es σ H Q := fun pos pins s I => h.run pos pins s σ H Q I q
end
section
variable (X : Cx) (c : FC) (Γ : Env_)
def DAs (es : List Expr) (m : Option (List D)) : Prop := ∀ ds, m = some ds → ∀ (σ : St) (H : Hp) (Q : List V → Hp → Prop), EnvOk X.K c σ H Γ → (∀ vs H', Same H H' → RpA X.K H' vs ds → Q vs H') → sA X es σ H Q
end
section
variable (X : Cx) (c : FC) {T : Type} (G : T → Env_)
def DXAs (es : List Expr) (m : T → Option (List D × T)) : Prop := ∀ t ds t', m t = some (ds, t') → ∀ (σ : St) (H : Hp) (Q : List V → Hp → Prop), EnvOk X.K c σ H (G t) → (∀ vs H', EnvOk X.K c σ H' (G t') → Step (G t) (G t') σ H H' → RpA X.K H' vs ds → Q vs H') → sA X es σ H Q
end
section
variable {X : Cx} {c : FC} {Γ : Env_}
theorem das_nil : DAs X c Γ [] (some []) := fun ds hd σ H Q E k => by
  cases hd
  exact sA_of pa_nil (k [] H (Same.refl H) .nil)
theorem das_cons {e : Expr} {es : List Expr} {m : Option D} {ms : Option (List D)} (h : DE X c Γ e m) (hs : DAs X c Γ es ms) (hst : starEach (e :: es) X.env = (false, eval e X.env) :: starEach es X.env := by rfl) : DAs X c Γ (e :: es) (consO m ms) := fun ds hd σ H Q E k => by
  obtain ⟨x, e1, e2⟩ := Option.bind_eq_some_iff.mp hd
  obtain ⟨xs, e3, rfl⟩ := Option.map_eq_some_iff.mp e2
  exact sA_of (pa_cons (pe_s e) (pa_sA es) hst) (h x e1 σ H _ E fun v H1 s1 r1 => hs xs e3 σ H1 _ (E.same s1) fun vs H2 s2 r2 => k _ _ (s1.trans s2) (.cons (r1.mono (.of_same s2)) r2))
def starO (m : Option D) (ms : Option (List D)) : Option (List D) := (m.bind iterD).bind fun x => ms.map (x ++ ·)
theorem RpW.items {K : Fr_} {H : Hp} {v : V} {d : D} {ds : List D} (r : RpW K H v d) (e : iterD d = some ds) : ∃ p xs, v = .ref p ∧ (SqT K H p xs ∨ SqL K H p xs) ∧ RpA K H xs ds := by
  cases d with
  | list ds' =>
    cases e
    obtain ⟨a, xs, rfl, h, q⟩ := r.list
    exact ⟨a, xs, rfl, .inr h, q⟩
  | tuple ds' =>
    cases e
    obtain ⟨a, xs, rfl, h, q⟩ := r.tuple
    exact ⟨a, xs, rfl, .inl h, q⟩
  | _ => cases e
theorem das_star {e : Expr} {es : List Expr} {p : Pos} {m : Option D} {ms : Option (List D)} (h : DW X c Γ e m) (hs : DAs X c Γ es ms) (hst : starEach (.Starred e p :: es) X.env = (true, eval e X.env) :: starEach es X.env := by rfl) : DAs X c Γ (.Starred e p :: es) (starO m ms) := fun ds hd σ H Q E k => by
  obtain ⟨x, e1, e2⟩ := Option.bind_eq_some_iff.mp hd
  obtain ⟨d, e0, e4⟩ := Option.bind_eq_some_iff.mp e1
  obtain ⟨xs, e3, rfl⟩ := Option.map_eq_some_iff.mp e2
  refine sA_of (StX.pa_star (pe_s e) (pa_sA es) hst) (h d e0 σ H _ E fun v H1 s1 r1 => ?_)
  obtain ⟨a, ys, rfl, hq, r⟩ := r1.items e4
  exact ⟨a, ys, rfl, hq, hs xs e3 σ H1 _ (E.same s1) fun vs H2 s2 r2 => k _ _ (s1.trans s2) ((r.mono (.of_same s2)).append r2)⟩
theorem de_tupS {es : List Expr} {m : Option (List D)} {x1 : Nat} {pos : Pos} (h : DAs X c Γ es m) : DE X c Γ (.Tuple es x1 pos) ((lenOk m).map .tuple) := fun d hd σ H Q E k => by
  obtain ⟨ds, e0, rfl⟩ := Option.map_eq_some_iff.mp hd
  obtain ⟨ds', e1, e2⟩ := Option.bind_eq_some_iff.mp e0
  split at e2
  · rename_i hl
    cases e2
    refine sE_of (pe_tup' (pa_sA es)) (h _ e1 σ H _ E fun vs H1 s1 r1 => ⟨?_, fun p u hp hu => ?_⟩)
    · rw [r1.length]
      exact Nat.le_trans hl (by decide)
    · exact k _ _ (s1.trans (Same.new hp)) (.tup (.of hu upd_same) (r1.mono (.of_same (Same.new hp))))
  · cases e2
theorem df_lstS {es : List Expr} {m : Option (List D)} {pos : Pos} (h : DAs X c Γ es m) : DF X c Γ (.List es pos) (lenOk m) := fun d hd σ H Q E k => by
  obtain ⟨ds', e1, e2⟩ := Option.bind_eq_some_iff.mp hd
  split at e2
  · rename_i hl
    cases e2
    refine sE_of (pe_lst (pa_sA es)) (h _ e1 σ H _ E fun vs H1 s1 r1 => ⟨?_, fun p hp => ?_⟩)
    · rw [r1.length]
      exact Nat.le_trans hl (by decide)
    · exact k _ _ _ (s1.free hp) (s1.trans (Same.new hp)) upd_same (r1.mono (.of_same (Same.new hp)))
  · cases e2
end
section
variable {X : Cx} {c : FC} {T : Type} {G : T → Env_}
theorem dxas_nil : DXAs X c G [] (fun t => some ([], t)) := fun t ds t' hd σ H Q E k => by
  cases hd
  exact sA_of pa_nil (k [] H E (.refl E) .nil)
theorem dxas_cons {e : Expr} {es : List Expr} {m : T → Option (D × T)} {ms : T → Option (List D × T)} (h : DX X c G e m) (hs : DXAs X c G es ms) (hst : starEach (e :: es) X.env = (false, eval e X.env) :: starEach es X.env := by rfl) : DXAs X c G (e :: es) (consX m ms) := fun t ds t' hd σ H Q E k => by
  obtain ⟨⟨x, t1⟩, e1, e2⟩ := Option.bind_eq_some_iff.mp hd
  obtain ⟨⟨xs, t2⟩, e3, e4⟩ := Option.map_eq_some_iff.mp e2
  cases e4
  exact sA_of (pa_cons (pe_s e) (pa_sA es) hst) (h t x t1 e1 σ H _ E fun v H1 E1 s1 r1 => hs t1 xs _ e3 σ H1 _ E1 fun vs H2 E2 s2 r2 => k _ _ E2 (s1.trans s2) (.cons (r1.mono (s2.mono E1)) r2))
def starX (m : T → Option (D × T)) (ms : T → Option (List D × T)) : T → Option (List D × T) := fun t => (bindX m iterD t).bind fun p => (ms p.2).map fun q => (p.1 ++ q.1, q.2)
theorem dxas_star {e : Expr} {es : List Expr} {p : Pos} {m : T → Option (D × T)} {ms : T → Option (List D × T)} (h : DX X c G e m) (hs : DXAs X c G es ms) (hst : starEach (.Starred e p :: es) X.env = (true, eval e X.env) :: starEach es X.env := by rfl) : DXAs X c G (.Starred e p :: es) (starX m ms) := fun t ds t' hd σ H Q E k => by
  obtain ⟨⟨x, t1⟩, e1, e2⟩ := Option.bind_eq_some_iff.mp hd
  obtain ⟨d, e0, e5⟩ := bindX_eq e1
  obtain ⟨⟨xs, t2⟩, e3, e4⟩ := Option.map_eq_some_iff.mp e2
  cases e4
  refine sA_of (StX.pa_star (pe_s e) (pa_sA es) hst) (h t d t1 e0 σ H _ E fun v H1 E1 s1 r1 => ?_)
  cases d with
  | list ds' =>
    cases e5
    cases r1 with
    | lst hz r => exact ⟨_, _, rfl, .inr hz.sq, hs t1 xs _ e3 σ H1 _ E1 fun vs H2 E2 s2 r2 => k _ _ E2 (s1.trans s2) ((r.mono (s2.mono E1)).append r2)⟩
  | tuple ds' =>
    cases e5
    cases r1 with
    | tup hz r => exact ⟨_, _, rfl, .inl hz.sq, hs t1 xs _ e3 σ H1 _ E1 fun vs H2 E2 s2 r2 => k _ _ E2 (s1.trans s2) ((r.mono (s2.mono E1)).append r2)⟩
  | _ => cases e5
theorem dx_tupS {es : List Expr} {m : T → Option (List D × T)} {x1 : Nat} {pos : Pos} (h : DXAs X c G es m) : DX X c G (.Tuple es x1 pos) (tupX m) := fun t d t' hd σ H Q E k => by
  obtain ⟨⟨ds, t1⟩, e0, e00⟩ := Option.map_eq_some_iff.mp hd
  cases e00
  obtain ⟨⟨ds', t2⟩, e1, e2⟩ := Option.bind_eq_some_iff.mp e0
  split at e2
  · rename_i hl
    cases e2
    refine sE_of (pe_tup' (pa_sA es)) (h t _ _ e1 σ H _ E fun vs H1 E1 s1 r1 => ⟨?_, fun p u hp hu => ?_⟩)
    · rw [r1.length]
      exact Nat.le_trans hl (by decide)
    · exact k _ _ (E1.same (Same.new hp)) (s1.trans (.of_same E1 (Same.new hp))) (.tup (.of hu upd_same) (r1.mono (.of_same (Same.new hp))))
  · cases e2
theorem dxf_lstS {es : List Expr} {m : T → Option (List D × T)} {pos : Pos} (h : DXAs X c G es m) : DXF X c G (.List es pos) (lenOkX m) := fun t d t' hd σ H Q E k => by
  obtain ⟨⟨ds', t2⟩, e1, e2⟩ := Option.bind_eq_some_iff.mp hd
  split at e2
  · rename_i hl
    cases e2
    refine sE_of (pe_lst (pa_sA es)) (h t _ _ e1 σ H _ E fun vs H1 E1 s1 r1 => ⟨?_, fun p hp => ?_⟩)
    · rw [r1.length]
      exact Nat.le_trans hl (by decide)
    · exact k _ _ _ (s1.free E hp) (E1.same (Same.new hp)) (s1.trans (.of_same E1 (Same.new hp))) upd_same (r1.mono (.of_same (Same.new hp)))
  · cases e2
end
end DL

set_option Elab.async false
set_option linter.all false
set_option maxRecDepth 100000
set_option maxHeartbeats 2000000
set_option autoImplicit false
namespace DL
open PySem PySem.Spec PyProof.Rows L2
/-! ### comprehensions -/
theorem wipe_at (σ : St) (i : Nat) : ∀ vs : List Nat, (wipe σ vs)[i]? = if i ∈ vs then (σ[i]?).map (fun _ => none) else σ[i]?
  | [] => by simp [wipe]
  | v :: vs => by
    unfold wipe
    by_cases h : v = i
    · subst h
      rw [if_pos List.mem_cons_self, List.getElem?_set, if_pos rfl, wipe_length]
      by_cases hl : v < σ.length
      · rw [if_pos hl, List.getElem?_eq_getElem hl]
        rfl
      · rw [if_neg hl, List.getElem?_eq_none (by omega)]
        rfl
    · rw [List.getElem?_set_ne h, wipe_at σ i vs]
      have e : (i ∈ v :: vs) = (i ∈ vs) := by
        rw [List.mem_cons]
        exact propext ⟨fun z => z.resolve_left fun q => h q.symm, .inr⟩
      simp only [e]
theorem wipe_only {js vs : List Nat} {σ σ2 : St} (o : OnlyAt js (wipe σ vs) σ2) (h : ∀ j ∈ js, j ∈ vs) : wipe σ2 vs = wipe σ vs := by
  apply List.ext_getElem?
  intro i
  rw [wipe_at, wipe_at]
  by_cases hi : i ∈ vs
  · rw [if_pos hi, if_pos hi]
    have l : σ2.length = σ.length := by rw [o.1, wipe_length]
    by_cases hl : i < σ.length
    · rw [List.getElem?_eq_getElem hl, List.getElem?_eq_getElem (by omega : i < σ2.length)]
      rfl
    · rw [List.getElem?_eq_none (by omega), List.getElem?_eq_none (by omega)]
  · rw [if_neg hi, if_neg hi, o.2 i fun z => hi (h i z), wipe_at, if_neg hi]
def wipeC (Γ : Env_) : List Nat → Env_
  | [] => Γ
  | v :: vs => (wipeC Γ vs).set v .any
theorem EnvOk.setAny {K : Fr_} {c : FC} {σ : St} {H : Hp} {Γ : Env_} (E : EnvOk K c σ H Γ) {i : Nat} {o : Option V} (hm : ∀ p ∈ c.M, p.1 ≠ i) : EnvOk K c (σ.set i o) H (Γ.set i .any) := by
  have own_of : ∀ {j : Nat} {k : Cell}, (Γ.set i .any)[j]? = some k → k.isOwn = true → j ≠ i ∧ Γ[j]? = some k := fun {j k} h ho => by
    by_cases e : i = j
    · subst e
      rw [List.getElem?_set] at h
      simp at h
      obtain ⟨_, h⟩ := h
      subst h
      cases ho
    · rw [List.getElem?_set_ne e] at h
      exact ⟨fun q => e q.symm, h⟩
  refine ⟨fun j k h => ?_, fun j l k q a hjl h1 h2 h3 h4 h5 h6 => ?_, E.pres, fun a ⟨j, k, h1, h2, h3⟩ => ?_, fun p hp => ?_, by rw [List.length_set, List.length_set, E.len]⟩
  · by_cases e : i = j
    · subst e
      rw [List.getElem?_set] at h
      simp at h
      obtain ⟨_, h⟩ := h
      subst h
      trivial
    · rw [List.getElem?_set_ne e] at h ⊢
      exact E.cells j k h
  · obtain ⟨n1, g1⟩ := own_of h1 h2
    obtain ⟨n2, g2⟩ := own_of h3 h4
    rw [List.getElem?_set_ne (Ne.symm n1)] at h5
    rw [List.getElem?_set_ne (Ne.symm n2)] at h6
    exact E.apart j l k q a hjl g1 h2 g2 h4 h5 h6
  · obtain ⟨n1, g1⟩ := own_of h1 h2
    rw [List.getElem?_set_ne (Ne.symm n1)] at h3
    exact E.new a ⟨j, k, g1, h2, h3⟩
  · obtain ⟨h1, k, h2, h3⟩ := E.pins p hp
    have n := hm p hp
    rw [List.getElem?_set_ne (Ne.symm n), List.getElem?_set_ne (Ne.symm n)]
    exact ⟨h1, k, h2, h3⟩
theorem EnvOk.wipe {K : Fr_} {c : FC} {σ : St} {H : Hp} {Γ : Env_} (E : EnvOk K c σ H Γ) : ∀ {vs : List Nat}, (∀ v ∈ vs, ∀ p ∈ c.M, p.1 ≠ v) → EnvOk K c (L2.wipe σ vs) H (wipeC Γ vs)
  | [], _ => E
  | v :: vs, h => (EnvOk.wipe E fun w hw => h w (List.mem_cons_of_mem _ hw)).setAny (h v List.mem_cons_self)
def pinsOut (c : FC) (vs : List Nat) : Bool := vs.all fun v => !((c.M.map (·.1)).contains v)
theorem pinsOut_iff {c : FC} {vs : List Nat} (h : pinsOut c vs = true) : ∀ v ∈ vs, ∀ p ∈ c.M, p.1 ≠ v := fun v hv => noPin (by
  have q := List.all_eq_true.mp h v hv
  simpa using q)
/-- a clause's tests, their own meaning -/
def sTs (X : Cx) (ifs : List Expr) : TT := fun σ H Q => ∃ t : TT, PTs X ifs t ∧ t σ H Q
theorem pts_s {X : Cx} {ifs : List Expr} : PTs X ifs (sTs X ifs) := ⟨fun pins s σ H Q I ⟨t, h, q⟩ => h.run pins s σ H Q I q⟩
def DTs (X : Cx) (c : FC) (Γ : Env_) (ifs : List Expr) (m : Option Bool) : Prop := ∀ b, m = some b → ∀ (σ : St) (H : Hp) (Q : Bool → Hp → Prop), EnvOk X.K c σ H Γ → (∀ H', Same H H' → Q b H') → sTs X ifs σ H Q
def DXTs (X : Cx) (c : FC) {T : Type} (G : T → Env_) (ifs : List Expr) (m : T → Option (Bool × T)) : Prop := ∀ t b t', m t = some (b, t') → ∀ (σ : St) (H : Hp) (Q : Bool → Hp → Prop), EnvOk X.K c σ H (G t) → (∀ H', EnvOk X.K c σ H' (G t') → Step (G t) (G t') σ H H' → Q b H') → sTs X ifs σ H Q
section
variable {X : Cx} {c : FC} {Γ : Env_}
theorem dts_nil : DTs X c Γ [] (some true) := fun b hb σ H Q E k => by
  cases hb
  exact ⟨tYes, pts_nil, k H (Same.refl H)⟩
theorem dts_one {e : Expr} {m : Option Bool} (h : DT X c Γ e m) : DTs X c Γ [e] m := fun b hb σ H Q E k => ⟨_, pts_one (pt_s e), h b hb σ H Q E k⟩
theorem dxts_lift {T : Type} {G : T → Env_} {ifs : List Expr} {m : T → Option Bool} (h : ∀ t, DTs X c (G t) ifs (m t)) : DXTs X c G ifs (liftX m) := fun t d t' hd σ H Q E k => by
  obtain ⟨e1, rfl⟩ := liftX_eq hd
  exact h _ d e1 σ H Q E fun H' s => k H' (E.same s) (.of_same E s)
theorem dxts_one {T : Type} {G : T → Env_} {e : Expr} {m : T → Option (Bool × T)} (h : DXT X c G e m) : DXTs X c G [e] m := fun t b t' hb σ H Q E k => ⟨_, pts_one (pt_s e), h t b t' hb σ H Q E k⟩
end
abbrev Blk (X : Cx) (scope : Scope) (s : Shared) (H : Hp) (C : Addr) (cl : List (Str × Addr)) (fp : List Addr) : Cx := X.blk s H scope (compEnvC scope cl C X.env) fp
def gB (X : Cx) (scope : Scope) (tg : Expr) : TG := fun v σ H Q => ∀ s H0 C cl fp, sG (Blk X scope s H0 C cl fp) tg v σ H Q
def tB (X : Cx) (scope : Scope) (ifs : List Expr) : TT := fun σ H Q => ∀ s H0 C cl fp, sTs (Blk X scope s H0 C cl fp) ifs σ H Q
def eB (X : Cx) (scope : Scope) (e : Expr) : TE := fun σ H Q => ∀ s H0 C cl fp, sE (Blk X scope s H0 C cl fp) e σ H Q
section
variable {X : Cx} {scope : Scope}
theorem pg_B (tg : Expr) (s : Shared) (H0 : Hp) (C : Addr) (cl : List (Str × Addr)) (fp : List Addr) : PG (X.blk s H0 scope (compEnvC scope cl C X.env) fp) tg (gB X scope tg) := ⟨fun pins s2 σ H v u Q I r h => (pg_s tg).run pins s2 σ H v u Q I r (h s H0 C cl fp)⟩
theorem pt_B (ifs : List Expr) (s : Shared) (H0 : Hp) (C : Addr) (cl : List (Str × Addr)) (fp : List Addr) : PTs (X.blk s H0 scope (compEnvC scope cl C X.env) fp) ifs (tB X scope ifs) := ⟨fun pins s2 σ H Q I h => pts_s.run pins s2 σ H Q I (h s H0 C cl fp)⟩
theorem pe_B (e : Expr) (s : Shared) (H0 : Hp) (C : Addr) (cl : List (Str × Addr)) (fp : List Addr) : PE (X.blk s H0 scope (compEnvC scope cl C X.env) fp) e (eB X scope e) := ⟨fun pins s2 σ H Q I h => (pe_s e).run pins s2 σ H Q I (h s H0 C cl fp)⟩
end
def lcF {P : Type} (pm : D → Option P) (mt : P → Option Bool) (me : P → Option D) : List D → Option (List D)
  | [] => some []
  | x :: r => (pm x).bind fun p => (mt p).bind fun b => if b then (me p).bind fun d => (lcF pm mt me r).map (d :: ·) else lcF pm mt me r
section
variable {X : Cx} {c : FC} {Γ : Env_} {scope : Scope} {P : Type} {js vs : List Nat} {tg iter elt : Expr} {ifs : List Expr} {pm : D → Option P} {Gt : P → Env_} {mt : P → Option Bool} {me : P → Option D} {mi : Option (List D)}
theorem lc_sem {its total : List D} {σ : St} {H : Hp} {Q : VK} (hi : DIw X c Γ tg iter mi) (hg : ∀ s H0 C cl fp, DG (Blk X scope s H0 C cl fp) c js (wipeC Γ vs) tg pm Gt) (ht : ∀ s H0 C cl fp p, DTs (Blk X scope s H0 C cl fp) c (Gt p) ifs (mt p)) (he : ∀ s H0 C cl fp p, DE (Blk X scope s H0 C cl fp) c (Gt p) elt (me p))
    (hp : pinsOut c vs = true) (hjs : ∀ j ∈ js, j ∈ vs) (e1 : mi = some its) (e2 : lcF pm mt me its = some total) (hlen : total.length ≤ 100000) (E : EnvOk X.K c σ H Γ)
    (k : ∀ a H' xs, H a = none → Same H H' → H' a = some (.lst xs) → RpA X.K H' xs total → Q (.ref a) H') : tLc (sI X tg iter) (gB X scope tg) (tB X scope ifs) (eB X scope elt) vs σ H Q := by
  refine hi its e1 σ H _ E fun J H1 Gd s1 i g => ?_
  intro D hD
  have hDH : H D = none := s1.free hD
  refine ⟨fun j m H2 => m = its.length - j ∧ j ≤ its.length ∧ Same H1 H2 ∧ ∃ acc done rest, H2 D = some (.lst acc) ∧ RpA X.K H2 acc done ∧ lcF pm mt me (its.drop j) = some rest ∧ done ++ rest = total,
    ⟨its.length, rfl, Nat.zero_le _, Same.new hD, [], [], total, upd_same, .nil, e2, rfl⟩, ?_⟩
  rintro j m H2 ⟨rfl, hj, sm, acc, done, rest, ha, ra, er, et⟩
  by_cases hlt : j < its.length
  · right
    have hd : its[j]? = some its[j] := List.getElem?_eq_getElem hlt
    rw [List.drop_eq_getElem_cons hlt] at er
    obtain ⟨p, e3, e4⟩ := Option.bind_eq_some_iff.mp er
    obtain ⟨b, e5, e6⟩ := Option.bind_eq_some_iff.mp e4
    have g2 := i.stays H1 H2 g sm
    refine ⟨i.goes j H2 hlt g2, fun H' => Same H1 H' ∧ ∃ acc done rest, H' D = some (.lst acc) ∧ RpA X.K H' acc done ∧ lcF pm mt me (its.drop (j + 1)) = some rest ∧ done ++ rest = total, fun H' q => ⟨its.length - (j + 1), by omega, rfl, hlt, q⟩, fun x H' y => ?_⟩
    obtain ⟨s2, r2⟩ := i.yields j H2 x H' _ hd g2 y
    have Eb : EnvOk X.K c (wipe σ vs) H' (wipeC Γ vs) := (((E.same s1).same (sm.trans s2))).wipe (pinsOut_iff hp)
    intro s H0 C cl fp
    refine hg s H0 C cl fp _ p e3 x (wipe σ vs) H' _ Eb r2 fun σ2 E2 o2 => ⟨wipe_only o2 hjs, ?_⟩
    intro s H0 C cl fp
    refine ht s H0 C cl fp p b e5 σ2 H' _ E2 fun H3 s3 => ?_
    have sa : Same H2 H3 := s2.trans s3
    cases b with
    | false =>
      rw [if_neg Bool.false_ne_true] at e6
      show ite _ _ _
      rw [if_neg Bool.false_ne_true]
      exact ⟨sm.trans sa, acc, done, rest, sa _ _ ha, ra.mono (.of_same sa), e6, et⟩
    | true =>
      rw [if_pos rfl] at e6
      obtain ⟨d, e7, e8⟩ := Option.bind_eq_some_iff.mp e6
      obtain ⟨rest', e9, rfl⟩ := Option.map_eq_some_iff.mp e8
      show ite _ _ _
      rw [if_pos rfl]
      intro s H0 C cl fp
      refine he s H0 C cl fp p d e7 σ2 H3 _ (E2.same s3) fun v H4 s4 r4 => ?_
      have sb : Same H2 H4 := sa.trans s4
      refine ⟨acc, sb _ _ ha, ?_, ?_⟩
      · rw [ra.length]
        have : done.length < total.length := by
          rw [← et, List.length_append, List.length_cons]
          omega
        exact Nat.lt_of_lt_of_le (Nat.lt_of_lt_of_le this hlen) (by decide)
      · have hD4 := sb _ _ ha
        have mo : Mono H4 (upd H4 D (.lst (acc ++ [v]))) := ⟨fun b zs hb => by rw [upd_ne (ne_of hb hD4 (by intro z; cases z))]; exact hb, fun b o u hb => by rw [upd_ne (ne_of hb hD4 (by intro z; cases z))]; exact hb⟩
        refine ⟨fun b o hb => ?_, acc ++ [v], done ++ [d], rest', upd_same, ((ra.mono (.of_same sb)).snoc r4).mono mo, e9, by rw [← et, List.append_assoc]; rfl⟩
        rw [upd_ne (ne_of_none hb hD)]
        exact sb _ _ (sm _ _ hb)
  · left
    have e : j = its.length := by omega
    subst e
    rw [List.drop_length] at er
    cases er
    rw [List.append_nil] at et
    subst et
    exact ⟨i.stops H2 (i.stays H1 H2 g sm), k D H2 acc hDH (s1.trans sm) ha ra⟩
theorem df_lc (own : List (Str × Nat)) {pos : Pos} (hc : X.calm = true) (hN : X.N.Nodup) (hi : DIw X c Γ tg iter mi) (hg : ∀ s H0 C cl fp, DG (Blk X scope s H0 C cl fp) c js (wipeC Γ (own.map (·.2))) tg pm Gt) (ht : ∀ s H0 C cl fp p, DTs (Blk X scope s H0 C cl fp) c (Gt p) ifs (mt p)) (he : ∀ s H0 C cl fp p, DE (Blk X scope s H0 C cl fp) c (Gt p) elt (me p))
    (ok : blkC X.N X.env.scope scope own = true := by rfl) (hp : pinsOut c (own.map (·.2)) = true := by rfl) (hjs : ∀ j ∈ js, j ∈ own.map (·.2) := by decide) (hs : ∀ x, foldedSetIterable iter X.env x = pure x := by intro _; rfl) :
    DF X c Γ (.ListComp elt [⟨tg, iter, ifs, 0⟩] scope pos) (lenOk (mi.bind (lcF pm mt me))) := fun ds hd σ H Q E k => by
  obtain ⟨ds', e0, e3⟩ := Option.bind_eq_some_iff.mp hd
  obtain ⟨its, e1, e2⟩ := Option.bind_eq_some_iff.mp e0
  split at e3
  · rename_i hl
    cases e3
    exact sE_of (pe_lc hc hN (pi_s tg iter) (blkOk_by ok) (fun s H C cl fp => pg_B tg s H C cl fp) (fun s H C cl fp => pt_B ifs s H C cl fp) (fun s H C cl fp => pe_B elt s H C cl fp) hs) (lc_sem hi hg ht he hp hjs e1 e2 hl E k)
  · cases e3
variable {N B R : Type} {GN : N → Env_} {GB : B → Env_} {RK : R → V → Hp → Prop} {rest : List Stmt}
theorem db_setLc (i : Nat) (own : List (Str × Nat)) {y : Str} {py pos spos : Pos} {mr : List D → Option (Fl N B R)} (hc : X.calm = true) (hN : X.N.Nodup) (hi : DIw X c Γ tg iter mi) (hg : ∀ s H0 C cl fp, DG (Blk X scope s H0 C cl fp) c js (wipeC Γ (own.map (·.2))) tg pm Gt) (ht : ∀ s H0 C cl fp p, DTs (Blk X scope s H0 C cl fp) c (Gt p) ifs (mt p)) (he : ∀ s H0 C cl fp p, DE (Blk X scope s H0 C cl fp) c (Gt p) elt (me p))
    (hr : ∀ d, DB X c GN GB RK (Γ.set i (.own d)) rest (mr d)) (hy : X.N[i]? = some y := by rfl) (hyl : X.env.scope.names.lookup y = some .local := by rfl) (hm : (c.M.map (·.1)).contains i = false := by rfl)
    (ok : blkC X.N X.env.scope scope own = true := by rfl) (hp : pinsOut c (own.map (·.2)) = true := by rfl) (hjs : ∀ j ∈ js, j ∈ own.map (·.2) := by decide) (hs : ∀ x, foldedSetIterable iter X.env x = pure x := by intro _; rfl) (hk : X.env.scope.kind = .function := by rfl) (hl : (py.line == pos.line) = true := by rfl) (ha : (scope.names.any fun (n, k) => n == y && (k == .local || k == .cell)) = false := by rfl) :
    DB X c GN GB RK Γ (.Assign [.Name y py] (.ListComp elt [⟨tg, iter, ifs, 0⟩] scope pos) spos :: rest) ((lenOk (mi.bind (lcF pm mt me))).bind mr) := fun o h σ H D E f => by
  obtain ⟨ds, e4, e5⟩ := Option.bind_eq_some_iff.mp h
  obtain ⟨ds', e0, e3⟩ := Option.bind_eq_some_iff.mp e4
  obtain ⟨its, e1, e2⟩ := Option.bind_eq_some_iff.mp e0
  split at e3
  · rename_i hl2
    cases e3
    refine sSs_cons (ps_setLc hc hN hy hyl (sw_true hk hyl hl ha) (pi_s tg iter) (blkOk_by ok) (fun s H C cl fp => pg_B tg s H C cl fp) (fun s H C cl fp => pt_B ifs s H C cl fp) (fun s H C cl fp => pe_B elt s H C cl fp) hs) ?_
    exact lc_sem (σ := σ) (H := H) hi hg ht he hp hjs e1 e2 hl2 E fun a H1 xs hn s1 hx r1 => hr _ o e5 _ H1 D ((E.same s1).setOwn hx r1 (E.notOwn hn) (E.fresh0 hn) (noPin hm)) (f.mono (.of_same s1))
  · cases e3
end
/-! the same with effects -/
def notOwnAt (vs : List Nat) (Γ : Env_) : Bool := vs.all fun v => match Γ[v]? with
  | some k => !k.isOwn
  | none => true
theorem notOwnAt_iff {vs : List Nat} {Γ : Env_} (h : notOwnAt vs Γ = true) : ∀ v ∈ vs, ∀ k, Γ[v]? = some k → k.isOwn = false := fun v hv k e => by
  have q := List.all_eq_true.mp h v hv
  rw [e] at q
  simpa using q
theorem wipeC_at (Γ : Env_) (i : Nat) : ∀ vs : List Nat, (wipeC Γ vs)[i]? = if i ∈ vs then (Γ[i]?).map (fun _ => .any) else Γ[i]?
  | [] => by simp [wipeC]
  | v :: vs => by
    have lw : ∀ us : List Nat, (wipeC Γ us).length = Γ.length := fun us => by
      induction us with
      | nil => rfl
      | cons u us ih => unfold wipeC; rw [List.length_set, ih]
    unfold wipeC
    by_cases h : v = i
    · subst h
      rw [if_pos List.mem_cons_self, List.getElem?_set, if_pos rfl, lw]
      by_cases hl : v < Γ.length
      · rw [if_pos hl, List.getElem?_eq_getElem hl]
        rfl
      · rw [if_neg hl, List.getElem?_eq_none (by omega)]
        rfl
    · rw [List.getElem?_set_ne h, wipeC_at Γ i vs]
      have e : (i ∈ v :: vs) = (i ∈ vs) := by
        rw [List.mem_cons]
        exact propext ⟨fun z => z.resolve_left fun q => h q.symm, .inr⟩
      simp only [e]
theorem owns_wipe {Γ : Env_} {σ : St} {vs : List Nat} {a : Addr} (h : notOwnAt vs Γ = true) : Owns (wipeC Γ vs) (wipe σ vs) a ↔ Owns Γ σ a := by
  constructor
  · rintro ⟨j, k, e1, e2, e3⟩
    rw [wipeC_at] at e1
    by_cases hj : j ∈ vs
    · rw [if_pos hj] at e1
      obtain ⟨_, _, rfl⟩ := Option.map_eq_some_iff.mp e1
      cases e2
    · rw [if_neg hj] at e1
      rw [wipe_at, if_neg hj] at e3
      exact ⟨j, k, e1, e2, e3⟩
  · rintro ⟨j, k, e1, e2, e3⟩
    have hj : j ∉ vs := fun z => by
      rw [notOwnAt_iff h j z k e1] at e2
      cases e2
    exact ⟨j, k, by rw [wipeC_at, if_neg hj]; exact e1, e2, by rw [wipe_at, if_neg hj]; exact e3⟩
theorem Step.wipe {Γ Γ' : Env_} {σ : St} {vs : List Nat} {H H' : Hp} (s : Step Γ Γ' σ H H') (h : notOwnAt vs Γ = true) (h' : notOwnAt vs Γ' = true) : Step (wipeC Γ vs) (wipeC Γ' vs) (L2.wipe σ vs) H H' :=
  ⟨fun b o e n => s.1 b o e fun q => n ((owns_wipe h).mpr q), fun a q => (owns_wipe h).mpr (s.2 a ((owns_wipe h').mp q)), fun a q => s.3 a ((owns_wipe h).mp q)⟩
theorem Step.unwipe {Γ Γ' : Env_} {σ : St} {vs : List Nat} {H H' : Hp} (s : Step Γ Γ' (L2.wipe σ vs) H H') (h : notOwnAt vs Γ = true) (h' : notOwnAt vs Γ' = true) (w : wipeC Γ vs = Γ) (w' : wipeC Γ' vs = Γ') : Step Γ Γ' σ H H' :=
  ⟨fun b o e n => s.1 b o e fun q => n ((owns_wipe h).mp (by rw [w]; exact q)), fun a q => by
    have z := s.2 a (by have y := (owns_wipe (σ := σ) (a := a) h').mpr q; rw [w'] at y; exact y)
    exact (owns_wipe h).mp (by rw [w]; exact z), fun a q => s.3 a (by have y := (owns_wipe (σ := σ) (a := a) h).mpr q; rw [w] at y; exact y)⟩
theorem EnvOk.unwipe {K : Fr_} {c : FC} {σ : St} {H : Hp} {Γ : Env_} {vs : List Nat} (E : EnvOk K c (L2.wipe σ vs) H Γ) (w : wipeC Γ vs = Γ) (hp : ∀ v ∈ vs, ∀ p ∈ c.M, p.1 ≠ v) : EnvOk K c σ H Γ := by
  have any_ : ∀ {i : Nat} {k : Cell}, i ∈ vs → Γ[i]? = some k → k = .any := fun {i k} hi e => by
    rw [← w, wipeC_at, if_pos hi] at e
    obtain ⟨_, _, rfl⟩ := Option.map_eq_some_iff.mp e
    rfl
  have out : ∀ {i : Nat} {k : Cell}, Γ[i]? = some k → k.isOwn = true → i ∉ vs := fun {i k} e ho hi => by
    rw [any_ hi e] at ho
    cases ho
  have at_ : ∀ {i : Nat}, i ∉ vs → (L2.wipe σ vs)[i]? = σ[i]? := fun {i} hi => by rw [wipe_at, if_neg hi]
  refine ⟨fun i k h => ?_, fun i j k l a hij h1 h2 h3 h4 h5 h6 => E.apart i j k l a hij h1 h2 h3 h4 (by rw [at_ (out h1 h2)]; exact h5) (by rw [at_ (out h3 h4)]; exact h6), E.pres, fun a ⟨j, k, h1, h2, h3⟩ => E.new a ⟨j, k, h1, h2, by rw [at_ (out h1 h2)]; exact h3⟩, fun p hq => ?_, by rw [← E.len, wipe_length]⟩
  · by_cases hi : i ∈ vs
    · rw [any_ hi h]
      trivial
    · have z := E.cells i k h
      rw [at_ hi] at z
      exact z
  · obtain ⟨h1, h2⟩ := E.pins p hq
    have hv : p.1 ∉ vs := fun z => hp p.1 z p hq rfl
    rw [at_ hv] at h1
    exact ⟨h1, h2⟩
def lcX {T P : Type} (pm : D → Option P) (mt : P → T → Option (Bool × T)) (me : P → T → Option (D × T)) : List D → T → Option (List D × T)
  | [], t => some ([], t)
  | x :: r, t => (pm x).bind fun p => (mt p t).bind fun q => if q.1 then (me p q.2).bind fun w => (lcX pm mt me r w.2).map fun z => (w.1 :: z.1, z.2) else lcX pm mt me r q.2
section
variable {X : Cx} {c : FC} {T : Type} {G : T → Env_} {scope : Scope} {P : Type} {js vs : List Nat} {tg iter elt : Expr} {ifs : List Expr} {pm : D → Option P} {Gt : T → P → Env_} {mt : P → T → Option (Bool × T)} {me : P → T → Option (D × T)} {mi : T → Option (List D × T)}
theorem lcX_sem {its total : List D} {t t1 t2 : T} {σ : St} {H : Hp} {Q : VK} (hi : DXI X c G tg iter mi) (hg : ∀ s H0 C cl fp t, DG (Blk X scope s H0 C cl fp) c js (G t) tg pm (Gt t)) (ht : ∀ s H0 C cl fp p, DXTs (Blk X scope s H0 C cl fp) c (fun t => Gt t p) ifs (mt p)) (he : ∀ s H0 C cl fp p, DX (Blk X scope s H0 C cl fp) c (fun t => Gt t p) elt (me p))
    (hp : pinsOut c vs = true) (hjs : ∀ j ∈ js, j ∈ vs) (hG : ∀ t, wipeC (G t) vs = G t) (hGt : ∀ t p, wipeC (Gt t p) vs = G t) (hno : ∀ t p, notOwnAt vs (Gt t p) = true) (hno' : ∀ t, notOwnAt vs (G t) = true)
    (e1 : mi t = some (its, t1)) (e2 : lcX pm mt me its t1 = some (total, t2)) (hlen : total.length ≤ 100000) (E : EnvOk X.K c σ H (G t))
    (k : ∀ a H' xs, H a = none → EnvOk X.K c σ H' (G t2) → Step (G t) (G t2) σ H H' → H' a = some (.lst xs) → RpA X.K H' xs total → Q (.ref a) H') : tLc (sI X tg iter) (gB X scope tg) (tB X scope ifs) (eB X scope elt) vs σ H Q := by
  refine hi t its t1 e1 σ H _ E fun J H1 Gd E1 s1 i g => ?_
  intro D hD
  have hDH : H D = none := s1.free E hD
  have hpo := pinsOut_iff hp
  have Ew : ∀ {u : T} {H' : Hp}, EnvOk X.K c σ H' (G u) → EnvOk X.K c (wipe σ vs) H' (G u) := fun {u H'} e => by
    have z := e.wipe hpo (vs := vs)
    rw [hG] at z
    exact z
  refine ⟨fun j m H2 => m = its.length - j ∧ j ≤ its.length ∧ ∃ u, EnvOk X.K c (wipe σ vs) H2 (G u) ∧ Step (G t1) (G u) (wipe σ vs) H1 H2 ∧ ¬ Owns (G u) (wipe σ vs) D ∧ ∃ acc done rest, H2 D = some (.lst acc) ∧ RpA X.K H2 acc done ∧ lcX pm mt me (its.drop j) u = some (rest, t2) ∧ done ++ rest = total,
    ⟨its.length, rfl, Nat.zero_le _, t1, (Ew E1).same (Same.new hD), .of_same (Ew E1) (Same.new hD), (Ew E1).notOwn hD, [], [], total, upd_same, .nil, e2, rfl⟩, ?_⟩
  rintro j m H2 ⟨rfl, hj, u, E2, st, no, acc, done, rest, ha, ra, er, et⟩
  have mo1 : Mono H1 H2 := st.mono (Ew E1)
  by_cases hlt : j < its.length
  · right
    have hd : its[j]? = some its[j] := List.getElem?_eq_getElem hlt
    rw [List.drop_eq_getElem_cons hlt] at er
    obtain ⟨p, e3, e4⟩ := Option.bind_eq_some_iff.mp er
    obtain ⟨⟨b, u1⟩, e5, e6⟩ := Option.bind_eq_some_iff.mp e4
    have g2 := i.stays H1 H2 g mo1
    refine ⟨i.goes j H2 hlt g2, fun H' => ∃ u, EnvOk X.K c (wipe σ vs) H' (G u) ∧ Step (G t1) (G u) (wipe σ vs) H1 H' ∧ ¬ Owns (G u) (wipe σ vs) D ∧ ∃ acc done rest, H' D = some (.lst acc) ∧ RpA X.K H' acc done ∧ lcX pm mt me (its.drop (j + 1)) u = some (rest, t2) ∧ done ++ rest = total, fun H' q => ⟨its.length - (j + 1), by omega, rfl, hlt, q⟩, fun x H' y => ?_⟩
    obtain ⟨s2, r2⟩ := i.yields j H2 x H' _ hd g2 y
    have Ea : EnvOk X.K c (wipe σ vs) H' (G u) := E2.same s2
    intro s H0 C cl fp
    refine hg s H0 C cl fp u _ p e3 x (wipe σ vs) H' _ Ea r2 fun σ2 E3 o2 => ⟨wipe_only o2 hjs, ?_⟩
    have ww := wipe_only o2 hjs
    -- back to the frame with the block's names forgotten
    have back : ∀ {w : T} {H'' : Hp}, EnvOk X.K c σ2 H'' (Gt w p) → EnvOk X.K c (wipe σ vs) H'' (G w) := fun {w H''} e => by
      have z := e.wipe hpo (vs := vs)
      rw [hGt, ww] at z
      exact z
    have backS : ∀ {w w' : T} {Ha Hb : Hp}, Step (Gt w p) (Gt w' p) σ2 Ha Hb → Step (G w) (G w') (wipe σ vs) Ha Hb := fun {w w' Ha Hb} e => by
      have z := e.wipe (hno w p) (hno w' p)
      rw [hGt, hGt, ww] at z
      exact z
    intro s H0 C cl fp
    refine ht s H0 C cl fp p u b u1 e5 σ2 H' _ E3 fun H3 E4 s3 => ?_
    have sa : Step (G u) (G u1) (wipe σ vs) H2 H3 := (Step.of_same E2 s2).trans (backS s3)
    have ha3 : H3 D = some (.lst acc) := sa.1 _ _ ha no
    have no3 : ¬ Owns (G u1) (wipe σ vs) D := fun q => no (sa.2 _ q)
    have ra3 : RpA X.K H3 acc done := ra.mono (sa.mono E2)
    cases b with
    | false =>
      replace e6 : lcX pm mt me (its.drop (j + 1)) u1 = some (rest, t2) := e6
      show ite _ _ _
      rw [if_neg Bool.false_ne_true]
      exact ⟨u1, back E4, st.trans sa, no3, acc, done, rest, ha3, ra3, e6, et⟩
    | true =>
      replace e6 : ((me p u1).bind fun w => (lcX pm mt me (its.drop (j + 1)) w.2).map fun z => (w.1 :: z.1, z.2)) = some (rest, t2) := e6
      obtain ⟨⟨d, u2⟩, e7, e8⟩ := Option.bind_eq_some_iff.mp e6
      obtain ⟨⟨rest', t3⟩, e9, e10⟩ := Option.map_eq_some_iff.mp e8
      cases e10
      show ite _ _ _
      rw [if_pos rfl]
      intro s H0 C cl fp
      refine he s H0 C cl fp p u1 d u2 e7 σ2 H3 _ E4 fun v H4 E5 s4 r4 => ?_
      have sb : Step (G u1) (G u2) (wipe σ vs) H3 H4 := backS s4
      have hD4 : H4 D = some (.lst acc) := sb.1 _ _ ha3 no3
      have no4 : ¬ Owns (G u2) (wipe σ vs) D := fun q => no3 (sb.2 _ q)
      have ra4 := ra3.mono (sb.mono (back E4))
      refine ⟨acc, hD4, ?_, ?_⟩
      · rw [ra.length]
        have : done.length < total.length := by
          rw [← et, List.length_append, List.length_cons]
          omega
        exact Nat.lt_of_lt_of_le (Nat.lt_of_lt_of_le this hlen) (by decide)
      · have keep : ∀ b o, H4 b = some o → b ≠ D → upd H4 D (.lst (acc ++ [v])) b = some o := fun b o hb hne => by
          rw [upd_ne hne]
          exact hb
        have mo : Mono H4 (upd H4 D (.lst (acc ++ [v]))) := ⟨fun b zs hb => keep b _ hb (ne_of hb hD4 (by intro z; cases z)), fun b o u hb => keep b _ hb (ne_of hb hD4 (by intro z; cases z))⟩
        have E6 : EnvOk X.K c (wipe σ vs) (upd H4 D (.lst (acc ++ [v]))) (G u2) := by
          have Eq := back E5
          refine ⟨fun i q hq => ?_, Eq.apart, fun b o hb hM => keep b o (Eq.pres b o hb hM) fun z => ?_, Eq.new, Eq.pins, Eq.len⟩
          · exact (Eq.cells i q hq).keep mo fun ho b u e1 hb => keep b u hb fun q' => no4 ⟨i, q, hq, ho, q' ▸ e1⟩
          · have z0 : H1 D = none := hD
            have z1 : c.H0 D = none := (Ew E1).fresh0 z0
            rw [z, z1] at hb
            cases hb
        have st4 : Step (G t1) (G u2) (wipe σ vs) H1 H4 := (st.trans sa).trans sb
        have ne1 : ∀ b o, H1 b = some o → b ≠ D := fun b o hb => ne_of_none hb hD
        have st5 : Step (G t1) (G u2) (wipe σ vs) H1 (upd H4 D (.lst (acc ++ [v]))) := ⟨fun b o hb hn => keep b o (st4.1 b o hb hn) (ne1 b o hb), st4.2, fun a hw => by
          obtain ⟨xs, e, _⟩ := (Ew E1).owned hw
          rw [upd_ne (ne1 a _ e)]
          exact st4.3 a hw⟩
        exact ⟨u2, E6, st5, no4, acc ++ [v], done ++ [d], rest', upd_same, (ra4.snoc r4).mono mo, e9, by rw [← et, List.append_assoc]; rfl⟩
  · left
    have e : j = its.length := by omega
    subst e
    rw [List.drop_length] at er
    cases er
    rw [List.append_nil] at et
    subst et
    refine ⟨i.stops H2 (i.stays H1 H2 g mo1), ?_⟩
    exact k D H2 acc hDH (E2.unwipe (hG _) hpo) (s1.trans (st.unwipe (hno' _) (hno' _) (hG _) (hG _))) ha ra
theorem dxf_lc (own : List (Str × Nat)) {pos : Pos} (hc : X.calm = true) (hN : X.N.Nodup) (hi : DXI X c G tg iter mi) (hg : ∀ s H0 C cl fp t, DG (Blk X scope s H0 C cl fp) c js (G t) tg pm (Gt t)) (ht : ∀ s H0 C cl fp p, DXTs (Blk X scope s H0 C cl fp) c (fun t => Gt t p) ifs (mt p)) (he : ∀ s H0 C cl fp p, DX (Blk X scope s H0 C cl fp) c (fun t => Gt t p) elt (me p))
    (hG : ∀ t, wipeC (G t) (own.map (·.2)) = G t := by intros; rfl) (hGt : ∀ t p, wipeC (Gt t p) (own.map (·.2)) = G t := by intros; rfl) (hno : ∀ t p, notOwnAt (own.map (·.2)) (Gt t p) = true := by intros; rfl) (hno' : ∀ t, notOwnAt (own.map (·.2)) (G t) = true := by intros; rfl)
    (ok : blkC X.N X.env.scope scope own = true := by rfl) (hp : pinsOut c (own.map (·.2)) = true := by rfl) (hjs : ∀ j ∈ js, j ∈ own.map (·.2) := by decide) (hs : ∀ x, foldedSetIterable iter X.env x = pure x := by intro _; rfl) :
    DXF X c G (.ListComp elt [⟨tg, iter, ifs, 0⟩] scope pos) (lenOkX fun t => (mi t).bind fun q => lcX pm mt me q.1 q.2) := fun t ds t' hd σ H Q E k => by
  obtain ⟨⟨ds', t2⟩, e0, e3⟩ := Option.bind_eq_some_iff.mp hd
  obtain ⟨⟨its, t1⟩, e1, e2⟩ := Option.bind_eq_some_iff.mp e0
  split at e3
  · rename_i hl
    cases e3
    exact sE_of (pe_lc hc hN (pi_s tg iter) (blkOk_by ok) (fun s H C cl fp => pg_B tg s H C cl fp) (fun s H C cl fp => pt_B ifs s H C cl fp) (fun s H C cl fp => pe_B elt s H C cl fp) hs) (lcX_sem hi hg ht he hp hjs hG hGt hno hno' e1 e2 hl E k)
  · cases e3
variable {N B R : Type} {GN : N → Env_} {GB : B → Env_} {RK : R → V → Hp → Prop} {rest : List Stmt}
theorem dbx_setLc (i : Nat) (own : List (Str × Nat)) {y : Str} {py pos spos : Pos} {t : T} {mr : List D × T → Option (Fl N B R)} (hc : X.calm = true) (hN : X.N.Nodup) (hi : DXI X c G tg iter mi) (hg : ∀ s H0 C cl fp t, DG (Blk X scope s H0 C cl fp) c js (G t) tg pm (Gt t)) (ht : ∀ s H0 C cl fp p, DXTs (Blk X scope s H0 C cl fp) c (fun t => Gt t p) ifs (mt p)) (he : ∀ s H0 C cl fp p, DX (Blk X scope s H0 C cl fp) c (fun t => Gt t p) elt (me p))
    (hr : ∀ q : List D × T, DB X c GN GB RK ((G q.2).set i (.own q.1)) rest (mr q)) (hy : X.N[i]? = some y := by rfl) (hyl : X.env.scope.names.lookup y = some .local := by rfl) (hm : (c.M.map (·.1)).contains i = false := by rfl)
    (hG : ∀ t, wipeC (G t) (own.map (·.2)) = G t := by intros; rfl) (hGt : ∀ t p, wipeC (Gt t p) (own.map (·.2)) = G t := by intros; rfl) (hno : ∀ t p, notOwnAt (own.map (·.2)) (Gt t p) = true := by intros; rfl) (hno' : ∀ t, notOwnAt (own.map (·.2)) (G t) = true := by intros; rfl)
    (ok : blkC X.N X.env.scope scope own = true := by rfl) (hp : pinsOut c (own.map (·.2)) = true := by rfl) (hjs : ∀ j ∈ js, j ∈ own.map (·.2) := by decide) (hs : ∀ x, foldedSetIterable iter X.env x = pure x := by intro _; rfl) (hk : X.env.scope.kind = .function := by rfl) (hl : (py.line == pos.line) = true := by rfl) (ha : (scope.names.any fun (n, k) => n == y && (k == .local || k == .cell)) = false := by rfl) :
    DB X c GN GB RK (G t) (.Assign [.Name y py] (.ListComp elt [⟨tg, iter, ifs, 0⟩] scope pos) spos :: rest) ((lenOkX (fun t => (mi t).bind fun q => lcX pm mt me q.1 q.2) t).bind mr) := fun o h σ H D E f => by
  obtain ⟨⟨ds, t'⟩, e4, e5⟩ := Option.bind_eq_some_iff.mp h
  obtain ⟨⟨ds', t2⟩, e0, e3⟩ := Option.bind_eq_some_iff.mp e4
  obtain ⟨⟨its, t1⟩, e1, e2⟩ := Option.bind_eq_some_iff.mp e0
  split at e3
  · rename_i hl2
    cases e3
    refine sSs_cons (ps_setLc hc hN hy hyl (sw_true hk hyl hl ha) (pi_s tg iter) (blkOk_by ok) (fun s H C cl fp => pg_B tg s H C cl fp) (fun s H C cl fp => pt_B ifs s H C cl fp) (fun s H C cl fp => pe_B elt s H C cl fp) hs) ?_
    exact lcX_sem (σ := σ) (H := H) hi hg ht he hp hjs hG hGt hno hno' e1 e2 hl2 E fun a H1 xs hn E1 s1 hx r1 => hr _ o e5 _ H1 D (E1.setOwn hx r1 (fun q => E.notOwn hn (s1.2 _ q)) (E.fresh0 hn) (noPin hm)) (f.mono (s1.mono E))
  · cases e3
end
end DL

set_option Elab.async false
set_option linter.all false
set_option maxRecDepth 100000
set_option maxHeartbeats 2000000
set_option autoImplicit false
namespace DL
open PySem PySem.Spec PyProof.Rows L2
/-! ### enumerate, zip over lists and tuples -/
/-- a row of items: a tuple (true) or a list -/
def SqB (K : Fr_) (H : Hp) (t : Bool) (a : Addr) (xs : List V) : Prop := match t with
  | true => SqT K H a xs
  | false => SqL K H a xs
def SeqB (t : Bool) (h : Heap) (a : Addr) (its : Array Value) : Prop := match t with
  | true => h.IsTuple a its
  | false => h.IsList a its
def IterB (t : Bool) (h : Heap) (it a : Addr) (i : Nat) : Prop := match t with
  | true => h.IsTupleIter it a i
  | false => h.IsListIter it a i
def obB (t : Bool) (a : Addr) : Obj := match t with
  | true => { cls := .type "tuple_iterator", data := .fields #[.ref a, .int 0 0] }
  | false => { cls := .type "list_iterator", data := .fields #[.ref a, .int 0 0] }
theorem beginsB (t : Bool) (a : Addr) (its : Array Value) : Begins (.ref a) (obB t a) (fun h => SeqB t h a its) := match t with
  | true => begins_tuple a its
  | false => begins_list a its
theorem drawsB {prog : Program} {w : World} {A : Around} (hh : A.handled = none) (t : Bool) (it a : Addr) (hne : a ≠ it) (its : Array Value) : Draws prog w A it [it, a] its.size (fun i v => its[i]? = some v) (fun i h => IterB t h it a i ∧ SeqB t h a its) := match t with
  | true => Draws.tuple hh it a hne its
  | false => Draws.list hh it a hne its
theorem iterB_new {t : Bool} {h : Heap} {it a : Addr} (e : h.get? it = some (obB t a)) : IterB t h it a 0 := match t, e with
  | true, e => ⟨_, e, rfl, rfl⟩
  | false, e => ⟨_, e, rfl, rfl⟩
theorem iterB_obj {t : Bool} {h : Heap} {it a : Addr} {i : Nat} (e : IterB t h it a i) : ∃ o, h.get? it = some o ∧ ∀ v, o.data ≠ .cell v := match t, e with
  | true, ⟨o, h1, _, h3⟩ => ⟨o, h1, fun v z => by rw [h3] at z; cases z⟩
  | false, ⟨o, h1, _, h3⟩ => ⟨o, h1, fun v z => by rw [h3] at z; cases z⟩
theorem iterB_keep {t : Bool} {h h' : Heap} {it a : Addr} {i : Nat} (e : IterB t h it a i) (k : ∀ o, h.get? it = some o → h'.get? it = some o) : IterB t h' it a i := match t, e with
  | true, e => e.at k
  | false, e => e.at k
theorem inv_seqB {X : Cx} {pins : List (Addr × Obj)} {σ : St} {H : Hp} {s : Shared} {t : Bool} {a : Addr} {xs : List V} (I : Inv X pins σ H s) (h : SqB X.K H t a xs) : ∃ its : List Value, Vals xs its ∧ SeqB t s.heap a its.toArray ∧ xs.length ≤ sizeLine ∧ ∃ o, s.heap.get? a = some o := by
  cases t with
  | true =>
    obtain ⟨its, rv, p, hz⟩ := I.tuple h
    obtain ⟨o, e, r⟩ := id p
    exact ⟨its, rv, ⟨o, e, r⟩, hz, o, e⟩
  | false =>
    obtain ⟨its, rv, p, hz⟩ := I.list h
    obtain ⟨o, e, r⟩ := id p.isList
    exact ⟨its, rv, ⟨o, e, r⟩, hz, o, e⟩
theorem inv_seqB_inj {X : Cx} {pins : List (Addr × Obj)} {σ : St} {H : Hp} {s : Shared} {t : Bool} {a : Addr} {xs ys : List V} (I : Inv X pins σ H s) (h : SqB X.K H t a xs) (h' : SqB X.K H t a ys) : xs = ys := by
  cases t with
  | true => exact I.tuple_inj h h'
  | false => exact I.list_inj h h'
/-- an iterator that lays a new tuple at each turn -/
theorem turn_walk {P : Program} {w : World} {K : Fr_} {elts : List Expr} {kk : Nat} {tpos : Pos} {it : Addr} {fp wr : List Addr} (J : It) (tn : Nat → Heap → Prop) (mem : it ∈ fp) (sub : ∀ b ∈ wr, b ∈ fp) (obj : ∀ i h, tn i h → ∀ b ∈ fp, ∃ o, h.get? b = some o ∧ ∀ v, o.data ≠ .cell v)
    (keep : ∀ i h h', tn i h → (∀ b ∈ fp, ∀ o, h.get? b = some o → h'.get? b = some o) → tn i h')
    (W : ∀ (X : Cx), X.prog = P → X.w = w → X.K = K → X.calm = true → ∀ (i : Nat) (pins : List (Addr × Obj)) (s : Shared) (σ : St) (H : Hp), Inv X pins σ H s → J.go i H ∨ J.stop i H → tn i s.heap →
      ∃ (fpw : List Addr) (n : Nat) (Pt : Nat → Array Value → Prop) (Sw : Nat → Heap → Prop) (Mid : Nat → Addr → Heap → Prop), WalksT P w X.A it fpw wr n Pt Sw Mid ∧ Sw i s.heap ∧ (∀ j h, Sw j h → tn j h) ∧
        (J.go i H → i < n ∧ ∀ vals, Pt i vals → ∃ xs : List V, Vals xs vals.toList ∧ xs.length ≤ sizeLine ∧ ∀ T, H T = none → J.yld i H (.ref T) (upd H T (.tup xs))) ∧ (J.stop i H → i = n))
    (self : ∀ (A : Around) (i : Nat) (s : Shared) (Q : Value → Shared → Prop) (E : Value → Shared → Prop), tn i s.heap → Q (.ref it) s → wpAny (model P w) A (pyIter (.ref it)) Q E s) : Turn P w K (.Tuple elts kk tpos) J fp it tn where
  mem := mem
  obj := obj
  keep := keep
  self := self
  item := by
    intro X hP hw hK hc i pins s σ H E I hf st hg
    obtain ⟨fpw, n, Pt, Sw, Mid, WT, sw, toTn, go, _⟩ := W X hP hw hK hc i pins s σ H I (.inl hg) st
    obtain ⟨hin, hv⟩ := go hg
    subst hP hw
    refine WT.item i s _ _ hin sw fun T vals h' tk pt hT isT mid kp => ⟨_, rfl, ?_⟩
    refine WT.go elts kk tpos i T { s with heap := h', toks := tk } _ _ mid fun h'' sw'' kp'' => ?_
    obtain ⟨xs, rv, hz, yl⟩ := hv vals pt
    have hTn : H T = none := I.hok.fresh hT
    have apT : T ∉ wr := WT.apart _ _ _ mid
    have isT2 : h''.IsTuple T vals := isT.at fun o e => kp'' T o apT e
    have kk2 : ∀ b o, b ∉ wr → s.heap.get? b = some o → h''.get? b = some o := fun b o hb e => kp'' b o hb (kp b o hb e)
    have new : ObjOk X.prog X.w (upd H T (.tup xs)) h'' T (.tup xs) := by
      obtain ⟨o, e1, e2, n', e3⟩ := isT2
      exact ⟨hz, vals.toList, rv, ⟨o, e1, e2, n', by rw [e3]⟩⟩
    have I1 := I.turnedNew (t' := tk) kk2 (fun b hb => hf b (sub b hb)) hT new
    refine ⟨.ref T, _, I1, rfl, yl T hTn, toTn _ _ sw'', fun b hb => ?_⟩
    obtain ⟨o, e, _⟩ := obj i _ st b hb
    rw [upd_ne (Nat.ne_of_lt (Nat.lt_of_lt_of_le (Heap.lt_size e) hT))]
    exact (hf b hb).1
  done := by
    intro X hP hw hK hc i pins s σ H E I hf st hg
    obtain ⟨fpw, n, Pt, Sw, Mid, WT, sw, toTn, _, sp⟩ := W X hP hw hK hc i pins s σ H I (.inr hg) st
    have e := sp hg
    subst hP hw e
    exact WT.done s _ _ sw fun h' tk kp => ⟨rfl, I.turnedL (t' := tk) kp fun b hb => hf b (sub b hb)⟩
theorem vals_at {xs : List V} {its : List Value} {i : Nat} {x : V} {u : Value} (r : Vals xs its) (hx : xs[i]? = some x) (hu : its.toArray[i]? = some u) : RelV x u := by
  obtain ⟨u', e, q⟩ := r.get hx
  rw [List.getElem?_toArray] at hu
  rw [e] at hu
  cases hu
  exact q
/-! enumerate -/
def ItE (K : Fr_) (t : Bool) (a : Addr) : It :=
  ⟨fun i H => ∃ (xs : List V) (x : V), SqB K H t a xs ∧ xs[i]? = some x, fun i H v H' => ∃ T x, v = .ref T ∧ H T = none ∧ H' = upd H T (.tup [.int (i : Nat), x]) ∧ ∀ xs, SqB K H t a xs → xs[i]? = some x, fun i H => ∃ xs : List V, SqB K H t a xs ∧ i = xs.length⟩
theorem turn_en {P : Program} {w : World} {K : Fr_} {elts : List Expr} {kk : Nat} {tpos : Pos} (t : Bool) (a e it : Addr) (hai : a ≠ it) (hae : e ≠ a) (hei : e ≠ it) :
    Turn P w K (.Tuple elts kk tpos) (ItE K t a) [e, it] e (fun i h => (∃ old, IsEnum h e it ((i : Nat) : Int) old) ∧ IterB t h it a i) := by
  refine turn_walk (wr := [e, it]) _ _ List.mem_cons_self (fun b hb => hb) (fun i h ⟨⟨old, h1⟩, h2⟩ b hb => ?_) (fun i h h' ⟨⟨old, h1⟩, h2⟩ k => ⟨⟨old, k e (by simp) _ h1⟩, iterB_keep h2 fun o => k it (by simp) o⟩) (fun X hP hw hK hc i pins s σ H I gs st => ?_) fun A i s Q E ⟨⟨_, he⟩, _⟩ h => wpAny_pyIter_enum he h
  · have e' : b = e ∨ b = it := by simpa using hb
    rcases e' with z | z
    · rw [z]
      exact ⟨_, h1, fun v q => nomatch q⟩
    · rw [z]
      exact iterB_obj h2
  · subst hP hw hK
    have hx : ∃ xs, SqB X.K H t a xs := by
      rcases gs with ⟨xs, _, h, _⟩ | ⟨xs, h, _⟩
      · exact ⟨xs, h⟩
      · exact ⟨xs, h⟩
    obtain ⟨xs, hx⟩ := hx
    obtain ⟨its, rv, p, hz, _⟩ := inv_seqB I hx
    have hh : X.A.in1.handled = none := I.ok.hd hc
    have hef : e ∉ [it, a] := by
      simp only [List.mem_cons, List.not_mem_nil, or_false, not_or]
      exact ⟨hei, hae⟩
    refine ⟨_, _, _, _, _, WalksT.enumerateD (drawsB hh t it a hai its.toArray) e hei hef List.mem_cons_self, ⟨st.1, st.2, p⟩, fun j h ⟨h1, h2, h3⟩ => ⟨h1, h2⟩, fun ⟨ys, x, hy, hx'⟩ => ?_, fun ⟨ys, hy, hl⟩ => ?_⟩
    · have ey := inv_seqB_inj I hy hx
      subst ey
      refine ⟨?_, fun vals ⟨tk, u, hu, ev⟩ => ⟨[.int (i : Nat), x], ?_, by show 2 ≤ sizeLine; decide, fun T hT => ⟨T, x, rfl, hT, rfl, fun zs hz' => by rw [inv_seqB_inj I hz' hx]; exact hx'⟩⟩⟩
      · rw [List.size_toArray, ← rv.length]
        exact (List.getElem?_eq_some_iff.mp hx').1
      · rw [ev]
        exact .cons ⟨_, rfl⟩ (.cons (vals_at rv hx' hu) .nil)
    · rw [inv_seqB_inj I hy hx] at hl
      rw [hl, List.size_toArray, rv.length]
set_option maxHeartbeats 4000000 in
theorem meets_enum1 {v : Value} {o : Obj} {H : Heap → Prop} (B : Begins v o H) :
    Meets (Builtin.«enumerate.__new__» ⟨[.type "enumerate", v], []⟩) (fun _ R s => H s.heap ∧ R (.ok (.ret (.ref (s.heap.push o).objs.size))) { s with heap := (s.heap.push o).push { cls := .type "enumerate", data := .fields #[.none, .bool false, .ref s.heap.objs.size, rawInt 0, .none, .none] } }) :=
  .of_wp fun prog w A R s h => by
    obtain ⟨hp, g, d, tk, os⟩ := s
    obtain ⟨h1, h⟩ := h
    have hsub := sub_enumerate
    have q1 : ∀ {A' : Around} {E : Value → Shared → Prop} {Q : Value → Shared → Prop}, Q (.ref hp.objs.size) ⟨hp.push o, g, d, tk, os⟩ → wpAny (model prog w) A' (pyIter v) Q E ⟨hp, g, d, tk, os⟩ := fun q => B.iter prog w _ _ ⟨hp, g, d, tk, os⟩ _ h1 q
    wp_walk using q1
    refine wpAny_stack_any fun st => wpAny_pure ?_
    split
    · rename_i c _ _ _ _ _
      cases (c == Value.type "enumerate")
      · wp_walk using q1
        exact ⟨_, rfl, h⟩
      · wp_walk using q1
        exact ⟨_, rfl, h⟩
    · wp_walk using q1
      exact ⟨_, rfl, h⟩
theorem call_enum1 {prog : Program} {w : World} {A : Around} {E : Value → Shared → Prop} {s : Shared} {v : Value} {o : Obj} {H : Heap → Prop} {Q : Value → Shared → Prop} (B : Begins v o H) (h1 : H s.heap)
    (h : ∀ h', IsEnum h' (s.heap.objs.size + 1) s.heap.objs.size 0 .none → h'.get? s.heap.objs.size = some o → (∀ b o, s.heap.get? b = some o → h'.get? b = some o) → Q (.ref (s.heap.objs.size + 1)) { s with heap := h' }) :
    wpAny (model prog w) A (call (.type "enumerate") [v]) Q E s := by
  refine callType_new F.called_enumerate (by decide) (F.typeCall_enumerate_1 _) (F.newCall_enumerate_1 _) (fun obj => F.args_object_init_2 obj _) F.entry_enumerate_new (meets_enum1 B) ⟨h1, ?_⟩
  have hz : (s.heap.push o).objs.size = s.heap.objs.size + 1 := Heap.size_push ..
  have g1 := Heap.get?_push_size (s.heap.push o) (o := ({ cls := .type "enumerate", data := .fields #[.none, .bool false, .ref s.heap.objs.size, rawInt 0, .none, .none] } : Obj)) rfl
  show _ ∧ _
  rw [hz] at g1 ⊢
  exact ⟨⟨_, g1, rfl⟩, h _ g1 (Heap.get?_push_of_some _ (Heap.get?_push_size _ B.free)) fun b u x => Heap.get?_push_of_some _ (Heap.get?_push_of_some _ x)⟩
/-- (i, item), .. -/
def enumD : D → Option (List D) := fun d => (iterD d).map fun ds => ds.zipIdx.map fun p => .tuple [.int (p.2 : Nat), p.1]
theorem itd_en {tg : Expr} (htg : isTupG tg) {K : Fr_} {t : Bool} {a : Addr} {xs : List V} {ds : List D} : ItD tg K (ItE K t a) (ds.zipIdx.map fun p => .tuple [.int (p.2 : Nat), p.1]) (fun H => (match t with | true => SqT K H a xs | false => Fz K H a xs) ∧ RpA K H xs ds) where
  goes := fun i H hi ⟨h, r⟩ => by
    rw [List.length_map, List.length_zipIdx, ← r.length] at hi
    exact ⟨xs, xs[i], (match t, h with | true, h => h | false, h => h.sq), List.getElem?_eq_getElem hi⟩
  stops := fun H ⟨h, r⟩ => ⟨xs, (match t, h with | true, h => h | false, h => h.sq), by rw [List.length_map, List.length_zipIdx, r.length]⟩
  yields := fun i H x H' d hd ⟨h, r⟩ ⟨T, y, e1, hT, e2, q⟩ => by
    subst e1 e2
    rw [List.getElem?_map, List.getElem?_zipIdx] at hd
    obtain ⟨⟨d', n⟩, hd1, rfl⟩ := Option.map_eq_some_iff.mp hd
    obtain ⟨d'', hd2, e3⟩ := Option.map_eq_some_iff.mp hd1
    cases e3
    obtain ⟨v, h1, h2⟩ := r.get hd2
    have := q xs (match t, h with | true, h => h | false, h => h.sq)
    rw [h1] at this
    cases this
    have s := Same.new (o := (.tup [.int (i : Nat), y])) hT
    refine ⟨s, .tw htg (SqT.of upd_same) (.cons ?_ (.cons (h2.mono (.of_same s)) .nil))⟩
    rw [Nat.zero_add]
    exact .int _
  stays := fun H H' ⟨h, r⟩ m => ⟨(match t, h with | true, h => m.sqT h | false, h => m.fz h), r.mono m⟩
section
variable {X : Cx} {c : FC} {elts : List Expr} {kk : Nat} {tpos : Pos}
theorem pi_en {e : Expr} {ta : TA} {p pos : Pos} (hg : Gl X "enumerate") (hm : X.mg "enumerate" = none) (ha : PA X [e] ta) (hs : starEach [e] X.env = [(false, eval e X.env)] := by rfl) :
    PI X (.Tuple elts kk tpos) (.Call (.Name "enumerate" p) [e] [] pos) (fun σ H R => ta σ H fun vs H1 => ∃ t a xs, vs = [.ref a] ∧ SqB X.K H1 t a xs ∧ R (ItE X.K t a) H1) := by
  refine ⟨fun pins s σ H R I h => ?_⟩
  refine Call_ (ld_blt I hg hm boot_enumerate (PyProof.Rows.callWith_type1 (thn (ha.run pos pins s σ H _ I h) fun us s1 ⟨vs, H1, I1, r1, q1⟩ => ?_) hs rfl))
  obtain ⟨t, a, xs, rfl, hq, q⟩ := q1
  obtain ⟨u, rfl, ru⟩ := vals1 r1
  cases ru
  obtain ⟨its, rv, p', hz, o, ho⟩ := inv_seqB I1 hq
  have hlt : a < s1.heap.objs.size := Heap.lt_size ho
  refine call_enum1 (beginsB t a its.toArray) p' fun h' he hit hk => wpAny_pyIter_enum he ?_
  have I2 : Inv X pins σ H1 { s1 with heap := h' } := I1.kept (t' := s1.toks) hk
  refine ⟨s1.heap.objs.size + 1, [s1.heap.objs.size + 1, s1.heap.objs.size], _, _, H1, rfl, I2, turn_en t a _ _ (Nat.ne_of_lt hlt) (Nat.ne_of_gt (Nat.lt_succ_of_lt hlt)) (Nat.succ_ne_self _), ⟨⟨.none, he⟩, iterB_new hit⟩, fun b hb => ?_, q⟩
  have hle : s1.heap.objs.size ≤ b := by
    rcases List.mem_cons.mp hb with z | z
    · rw [z]
      exact Nat.le_succ _
    · rw [List.mem_singleton.mp z]
      exact Nat.le_refl _
  exact I1.fpOk hle (I1.hok.fresh hle)
theorem en_go {tg : Expr} (htg : isTupG tg) {H1 : Hp} {R : It → Hp → Prop} {v : V} {x : D} {ds : List D} (r1 : Rp X.K H1 v x) (e2 : enumD x = some ds) (k : ∀ J Gd, ItD tg X.K J ds Gd → Gd H1 → R J H1) : ∃ t a xs, [v] = [V.ref a] ∧ SqB X.K H1 t a xs ∧ R (ItE X.K t a) H1 := by
  obtain ⟨ds', e3, rfl⟩ := Option.map_eq_some_iff.mp e2
  cases r1 with
  | lst h r =>
    cases e3
    exact ⟨false, _, _, rfl, h.sq, k _ _ (itd_en htg (t := false)) ⟨h, r⟩⟩
  | tup h r =>
    cases e3
    exact ⟨true, _, _, rfl, h.sq, k _ _ (itd_en htg (t := true)) ⟨h.sq, r⟩⟩
  | _ => cases e3
theorem di_enum {Γ : Env_} {e : Expr} {m : Option D} {p pos : Pos} (hm : X.mg "enumerate" = none) (h : DE X c Γ e m) (hg : Gl X "enumerate" := by rfl) (hs : starEach [e] X.env = [(false, eval e X.env)] := by rfl) : DI X c Γ (.Tuple elts kk tpos) (.Call (.Name "enumerate" p) [e] [] pos) (m.bind enumD) := fun ds hd σ H R E k => by
  obtain ⟨x, e1, e2⟩ := Option.bind_eq_some_iff.mp hd
  refine sI_of (pi_en hg hm (pa_s ⟨hs, trivial⟩) hs) (h x e1 σ H _ E fun v H1 s1 r1 => ?_)
  exact en_go (tg := .Tuple elts kk tpos) trivial r1 e2 fun J Gd i g => k J H1 Gd s1 i g
theorem dxi_enum {T : Type} {G : T → Env_} {e : Expr} {m : T → Option (D × T)} {p pos : Pos} (hm : X.mg "enumerate" = none) (h : DX X c G e m) (hg : Gl X "enumerate" := by rfl) (hs : starEach [e] X.env = [(false, eval e X.env)] := by rfl) : DXI X c G (.Tuple elts kk tpos) (.Call (.Name "enumerate" p) [e] [] pos) (bindX m enumD) := fun t ds t' hd σ H R E k => by
  obtain ⟨x, e1, e2⟩ := bindX_eq hd
  refine sI_of (pi_en hg hm (pa_s ⟨hs, trivial⟩) hs) (h t x t' e1 σ H _ E fun v H1 E1 s1 r1 => ?_)
  exact en_go (tg := .Tuple elts kk tpos) trivial r1 e2 fun J Gd i g => k J H1 Gd E1 s1 i g
end
end DL

set_option Elab.async false
set_option linter.all false
set_option maxRecDepth 100000
set_option maxHeartbeats 2000000
set_option autoImplicit false
namespace DL
open PySem PySem.Spec PyProof.Rows L2
/-! ### zip of two, of three -/
def ItZ2 (K : Fr_) (t1 : Bool) (a : Addr) (t2 : Bool) (b : Addr) : It :=
  ⟨fun i H => ∃ (xs ys : List V), SqB K H t1 a xs ∧ SqB K H t2 b ys ∧ i < xs.length ∧ i < ys.length, fun i H v H' => ∃ T x y, v = .ref T ∧ H T = none ∧ H' = upd H T (.tup [x, y]) ∧ (∀ xs, SqB K H t1 a xs → xs[i]? = some x) ∧ ∀ ys, SqB K H t2 b ys → ys[i]? = some y,
    fun i H => ∃ xs ys : List V, SqB K H t1 a xs ∧ SqB K H t2 b ys ∧ i = min xs.length ys.length⟩
def ItZ3 (K : Fr_) (t1 : Bool) (a : Addr) (t2 : Bool) (b : Addr) (t3 : Bool) (c : Addr) : It :=
  ⟨fun i H => ∃ (xs ys zs : List V), SqB K H t1 a xs ∧ SqB K H t2 b ys ∧ SqB K H t3 c zs ∧ i < xs.length ∧ i < ys.length ∧ i < zs.length, fun i H v H' => ∃ T x y z, v = .ref T ∧ H T = none ∧ H' = upd H T (.tup [x, y, z]) ∧ (∀ xs, SqB K H t1 a xs → xs[i]? = some x) ∧ (∀ ys, SqB K H t2 b ys → ys[i]? = some y) ∧ ∀ zs, SqB K H t3 c zs → zs[i]? = some z,
    fun i H => ∃ xs ys zs : List V, SqB K H t1 a xs ∧ SqB K H t2 b ys ∧ SqB K H t3 c zs ∧ i = min (min xs.length ys.length) zs.length⟩
theorem zipTup_obj {h : Heap} {T : Addr} {vs : Array Value} (e : h.get? T = some { cls := .type "tuple", data := .seq vs }) : ∃ o, h.get? T = some o ∧ ∀ v, o.data ≠ .cell v := ⟨_, e, fun v q => nomatch q⟩
theorem turn_z2 {P : Program} {w : World} {K : Fr_} {elts : List Expr} {kk : Nat} {tpos : Pos} {t1 t2 : Bool} {a b z TI TO i1 i2 : Addr} (S : ZipSep2 z TI TO i1 i2 [i1, a] [i2, b]) (ha : a ≠ i1) (hb : b ≠ i2) :
    Turn P w K (.Tuple elts kk tpos) (ItZ2 K t1 a t2 b) [z, TI, TO, i1, i2] z (fun i h => IsZip h z TI TO .none ∧ IsTupOf2 h TI (.ref i1) (.ref i2) ∧ (∃ x y, IsTupOf2 h TO x y) ∧ IterB t1 h i1 a i ∧ IterB t2 h i2 b i) := by
  refine turn_walk (wr := [z, TO, i1, i2]) _ _ List.mem_cons_self (fun b hb => by simp at hb ⊢; rcases hb with q | q | q | q <;> simp [q]) (fun i h ⟨h1, h2, ⟨x, y, h3⟩, h4, h5⟩ c hc => ?_) (fun i h h' ⟨h1, h2, ⟨x, y, h3⟩, h4, h5⟩ k => ⟨k z (by simp) _ h1, k TI (by simp) _ h2, ⟨x, y, k TO (by simp) _ h3⟩, iterB_keep h4 fun o => k i1 (by simp) o, iterB_keep h5 fun o => k i2 (by simp) o⟩)
    (fun X hP hw hK hc i pins s σ H I gs st => ?_) fun A i s Q E st h => wpAny_pyIter_zip st.1 h
  · have e' : c = z ∨ c = TI ∨ c = TO ∨ c = i1 ∨ c = i2 := by simpa using hc
    rcases e' with q | q | q | q | q
    · rw [q]
      exact ⟨_, h1, fun v q => nomatch q⟩
    · rw [q]
      exact zipTup_obj h2
    · rw [q]
      exact zipTup_obj h3
    · rw [q]
      exact iterB_obj h4
    · rw [q]
      exact iterB_obj h5
  · subst hP hw hK
    have hx : ∃ xs ys, SqB X.K H t1 a xs ∧ SqB X.K H t2 b ys := by
      rcases gs with ⟨xs, ys, h1, h2, _⟩ | ⟨xs, ys, h1, h2, _⟩
      · exact ⟨xs, ys, h1, h2⟩
      · exact ⟨xs, ys, h1, h2⟩
    obtain ⟨xs, ys, hx, hy⟩ := hx
    obtain ⟨its, rv, p, _, _⟩ := inv_seqB I hx
    obtain ⟨its2, rv2, p2, _, _⟩ := inv_seqB I hy
    have hh : X.A.in1.handled = none := I.ok.hd hc
    obtain ⟨g1, g2, g3, g4, g5⟩ := st
    refine ⟨_, _, _, _, _, WalksT.zipD2 S (drawsB hh t1 i1 a ha its.toArray) (drawsB hh t2 i2 b hb its2.toArray), ⟨g1, g2, g3, ⟨g4, p⟩, ⟨g5, p2⟩⟩, fun j h ⟨q1, q2, q3, q4, q5⟩ => ⟨q1, q2, q3, q4.1, q5.1⟩, fun ⟨us, vs, h1, h2, l1, l2⟩ => ?_, fun ⟨us, vs, h1, h2, hl⟩ => ?_⟩
    · have e1 := inv_seqB_inj I h1 hx
      have e2 := inv_seqB_inj I h2 hy
      subst e1 e2
      refine ⟨?_, fun vals ⟨u1, u2, q1, q2, ev⟩ => ⟨[us[i], vs[i]], ?_, by show 2 ≤ sizeLine; decide, fun T hT => ⟨T, us[i], vs[i], rfl, hT, rfl, fun ws hw => by rw [inv_seqB_inj I hw h1]; exact List.getElem?_eq_getElem l1, fun ws hw => by rw [inv_seqB_inj I hw h2]; exact List.getElem?_eq_getElem l2⟩⟩⟩
      · rw [List.size_toArray, List.size_toArray, ← rv.length, ← rv2.length]
        omega
      · rw [ev]
        exact .cons (vals_at rv (List.getElem?_eq_getElem l1) q1) (.cons (vals_at rv2 (List.getElem?_eq_getElem l2) q2) .nil)
    · rw [inv_seqB_inj I h1 hx, inv_seqB_inj I h2 hy] at hl
      rw [hl, List.size_toArray, List.size_toArray, rv.length, rv2.length]
theorem turn_z3 {P : Program} {w : World} {K : Fr_} {elts : List Expr} {kk : Nat} {tpos : Pos} {t1 t2 t3 : Bool} {a b c z TI TO i1 i2 i3 : Addr} (S : ZipSep3 z TI TO i1 i2 i3 [i1, a] [i2, b] [i3, c]) (ha : a ≠ i1) (hb : b ≠ i2) (hcc : c ≠ i3) :
    Turn P w K (.Tuple elts kk tpos) (ItZ3 K t1 a t2 b t3 c) [z, TI, TO, i1, i2, i3] z (fun i h => IsZip h z TI TO .none ∧ IsTupOf3 h TI (.ref i1) (.ref i2) (.ref i3) ∧ (∃ x y u, IsTupOf3 h TO x y u) ∧ IterB t1 h i1 a i ∧ IterB t2 h i2 b i ∧ IterB t3 h i3 c i) := by
  refine turn_walk (wr := [z, TO, i1, i2, i3]) _ _ List.mem_cons_self (fun b hb => by simp at hb ⊢; rcases hb with q | q | q | q | q <;> simp [q]) (fun i h ⟨h1, h2, ⟨x, y, u, h3⟩, h4, h5, h6⟩ d hd => ?_) (fun i h h' ⟨h1, h2, ⟨x, y, u, h3⟩, h4, h5, h6⟩ k => ⟨k z (by simp) _ h1, k TI (by simp) _ h2, ⟨x, y, u, k TO (by simp) _ h3⟩, iterB_keep h4 fun o => k i1 (by simp) o, iterB_keep h5 fun o => k i2 (by simp) o, iterB_keep h6 fun o => k i3 (by simp) o⟩)
    (fun X hP hw hK hc i pins s σ H I gs st => ?_) fun A i s Q E st h => wpAny_pyIter_zip st.1 h
  · have e' : d = z ∨ d = TI ∨ d = TO ∨ d = i1 ∨ d = i2 ∨ d = i3 := by simpa using hd
    rcases e' with q | q | q | q | q | q
    · rw [q]
      exact ⟨_, h1, fun v q => nomatch q⟩
    · rw [q]
      exact zipTup_obj h2
    · rw [q]
      exact zipTup_obj h3
    · rw [q]
      exact iterB_obj h4
    · rw [q]
      exact iterB_obj h5
    · rw [q]
      exact iterB_obj h6
  · subst hP hw hK
    have hx : ∃ xs ys zs, SqB X.K H t1 a xs ∧ SqB X.K H t2 b ys ∧ SqB X.K H t3 c zs := by
      rcases gs with ⟨xs, ys, zs, h1, h2, h3, _⟩ | ⟨xs, ys, zs, h1, h2, h3, _⟩
      · exact ⟨xs, ys, zs, h1, h2, h3⟩
      · exact ⟨xs, ys, zs, h1, h2, h3⟩
    obtain ⟨xs, ys, zs, hx, hy, hz⟩ := hx
    obtain ⟨its, rv, p, _, _⟩ := inv_seqB I hx
    obtain ⟨its2, rv2, p2, _, _⟩ := inv_seqB I hy
    obtain ⟨its3, rv3, p3, _, _⟩ := inv_seqB I hz
    have hh : X.A.in1.handled = none := I.ok.hd hc
    obtain ⟨g1, g2, g3, g4, g5, g6⟩ := st
    refine ⟨_, _, _, _, _, WalksT.zipD3 S (drawsB hh t1 i1 a ha its.toArray) (drawsB hh t2 i2 b hb its2.toArray) (drawsB hh t3 i3 c hcc its3.toArray), ⟨g1, g2, g3, ⟨g4, p⟩, ⟨g5, p2⟩, ⟨g6, p3⟩⟩, fun j h ⟨q1, q2, q3, q4, q5, q6⟩ => ⟨q1, q2, q3, q4.1, q5.1, q6.1⟩, fun ⟨us, vs, ws, h1, h2, h3, l1, l2, l3⟩ => ?_, fun ⟨us, vs, ws, h1, h2, h3, hl⟩ => ?_⟩
    · have e1 := inv_seqB_inj I h1 hx
      have e2 := inv_seqB_inj I h2 hy
      have e3 := inv_seqB_inj I h3 hz
      subst e1 e2 e3
      refine ⟨?_, fun vals ⟨u1, u2, u3, q1, q2, q3, ev⟩ => ⟨[us[i], vs[i], ws[i]], ?_, by show 3 ≤ sizeLine; decide, fun T hT => ⟨T, us[i], vs[i], ws[i], rfl, hT, rfl, fun qs hw => by rw [inv_seqB_inj I hw h1]; exact List.getElem?_eq_getElem l1, fun qs hw => by rw [inv_seqB_inj I hw h2]; exact List.getElem?_eq_getElem l2, fun qs hw => by rw [inv_seqB_inj I hw h3]; exact List.getElem?_eq_getElem l3⟩⟩⟩
      · rw [List.size_toArray, List.size_toArray, List.size_toArray, ← rv.length, ← rv2.length, ← rv3.length]
        omega
      · rw [ev]
        exact .cons (vals_at rv (List.getElem?_eq_getElem l1) q1) (.cons (vals_at rv2 (List.getElem?_eq_getElem l2) q2) (.cons (vals_at rv3 (List.getElem?_eq_getElem l3) q3) .nil))
    · rw [inv_seqB_inj I h1 hx, inv_seqB_inj I h2 hy, inv_seqB_inj I h3 hz] at hl
      rw [hl, List.size_toArray, List.size_toArray, List.size_toArray, rv.length, rv2.length, rv3.length]
/-- a row that stands still -/
def FzB (K : Fr_) (H : Hp) (t : Bool) (a : Addr) (xs : List V) : Prop := match t with
  | true => SqT K H a xs
  | false => Fz K H a xs
theorem FzB.sq {K : Fr_} {H : Hp} {t : Bool} {a : Addr} {xs : List V} (h : FzB K H t a xs) : SqB K H t a xs := match t, h with
  | true, h => h
  | false, h => Fz.sq (show Fz K H a xs from h)
theorem FzB.mono {K : Fr_} {H H' : Hp} (m : Mono H H') {t : Bool} {a : Addr} {xs : List V} (h : FzB K H t a xs) : FzB K H' t a xs := match t, h with
  | true, h => m.sqT h
  | false, h => m.fz h
theorem Rp.row {K : Fr_} {H : Hp} {v : V} {d : D} {ds : List D} (r : Rp K H v d) (e : iterD d = some ds) : ∃ t a xs, v = .ref a ∧ FzB K H t a xs ∧ RpA K H xs ds := by
  cases r with
  | lst h r =>
    cases e
    exact ⟨false, _, _, rfl, h, r⟩
  | tup h r =>
    cases e
    exact ⟨true, _, _, rfl, h.sq, r⟩
  | _ => cases e
def zip2L (xs ys : List D) : List D := (xs.zip ys).map fun p => .tuple [p.1, p.2]
def zip3L (xs ys zs : List D) : List D := (xs.zip (ys.zip zs)).map fun p => .tuple [p.1, p.2.1, p.2.2]
def dZip2 : List D → Option (List D)
  | [x, y] => (iterD x).bind fun xs => (iterD y).map fun ys => zip2L xs ys
  | _ => none
def dZip3 : List D → Option (List D)
  | [x, y, z] => (iterD x).bind fun xs => (iterD y).bind fun ys => (iterD z).map fun zs => zip3L xs ys zs
  | _ => none
theorem itd_z2 {tg : Expr} (htg : isTupG tg) {K : Fr_} {t1 t2 : Bool} {a b : Addr} {xs ys : List V} {ds es : List D} : ItD tg K (ItZ2 K t1 a t2 b) (zip2L ds es) (fun H => (FzB K H t1 a xs ∧ RpA K H xs ds) ∧ FzB K H t2 b ys ∧ RpA K H ys es) where
  goes := fun i H hi ⟨⟨h1, r1⟩, h2, r2⟩ => by
    unfold zip2L at hi
    rw [List.length_map, List.length_zip, ← r1.length, ← r2.length] at hi
    exact ⟨xs, ys, h1.sq, h2.sq, by omega, by omega⟩
  stops := fun H ⟨⟨h1, r1⟩, h2, r2⟩ => ⟨xs, ys, h1.sq, h2.sq, by unfold zip2L; rw [List.length_map, List.length_zip, r1.length, r2.length]⟩
  yields := fun i H x H' d hd ⟨⟨h1, r1⟩, h2, r2⟩ ⟨T, u, v, e1, hT, e2, q1, q2⟩ => by
    subst e1 e2
    unfold zip2L at hd
    rw [List.getElem?_map] at hd
    obtain ⟨⟨d1, d2⟩, hd1, rfl⟩ := Option.map_eq_some_iff.mp hd
    rw [List.getElem?_zip_eq_some] at hd1
    obtain ⟨w1, g1, p1⟩ := r1.get hd1.1
    obtain ⟨w2, g2, p2⟩ := r2.get hd1.2
    have e1 := q1 xs h1.sq
    have e2 := q2 ys h2.sq
    rw [g1] at e1
    rw [g2] at e2
    cases e1
    cases e2
    have s := Same.new (o := (.tup [u, v])) hT
    exact ⟨s, .tw htg (SqT.of upd_same) (.cons (p1.mono (.of_same s)) (.cons (p2.mono (.of_same s)) .nil))⟩
  stays := fun H H' ⟨⟨h1, r1⟩, h2, r2⟩ m => ⟨⟨h1.mono m, r1.mono m⟩, h2.mono m, r2.mono m⟩
theorem itd_z3 {tg : Expr} (htg : isTupG tg) {K : Fr_} {t1 t2 t3 : Bool} {a b c : Addr} {xs ys zs : List V} {ds es fs : List D} : ItD tg K (ItZ3 K t1 a t2 b t3 c) (zip3L ds es fs) (fun H => (FzB K H t1 a xs ∧ RpA K H xs ds) ∧ (FzB K H t2 b ys ∧ RpA K H ys es) ∧ FzB K H t3 c zs ∧ RpA K H zs fs) where
  goes := fun i H hi ⟨⟨h1, r1⟩, ⟨h2, r2⟩, h3, r3⟩ => by
    unfold zip3L at hi
    rw [List.length_map, List.length_zip, List.length_zip, ← r1.length, ← r2.length, ← r3.length] at hi
    exact ⟨xs, ys, zs, h1.sq, h2.sq, h3.sq, by omega, by omega, by omega⟩
  stops := fun H ⟨⟨h1, r1⟩, ⟨h2, r2⟩, h3, r3⟩ => ⟨xs, ys, zs, h1.sq, h2.sq, h3.sq, by
    unfold zip3L
    rw [List.length_map, List.length_zip, List.length_zip, r1.length, r2.length, r3.length]
    omega⟩
  yields := fun i H x H' d hd ⟨⟨h1, r1⟩, ⟨h2, r2⟩, h3, r3⟩ ⟨T, u, v, q, e1, hT, e2, q1, q2, q3⟩ => by
    subst e1 e2
    unfold zip3L at hd
    rw [List.getElem?_map] at hd
    obtain ⟨⟨d1, d2, d3⟩, hd1, rfl⟩ := Option.map_eq_some_iff.mp hd
    rw [List.getElem?_zip_eq_some] at hd1
    obtain ⟨hd2, hd3⟩ := hd1
    rw [List.getElem?_zip_eq_some] at hd3
    obtain ⟨w1, g1, p1⟩ := r1.get hd2
    obtain ⟨w2, g2, p2⟩ := r2.get hd3.1
    obtain ⟨w3, g3, p3⟩ := r3.get hd3.2
    have e1 := q1 xs h1.sq
    have e2 := q2 ys h2.sq
    have e3 := q3 zs h3.sq
    rw [g1] at e1
    rw [g2] at e2
    rw [g3] at e3
    cases e1
    cases e2
    cases e3
    have s := Same.new (o := (.tup [u, v, q])) hT
    exact ⟨s, .tw htg (SqT.of upd_same) (.cons (p1.mono (.of_same s)) (.cons (p2.mono (.of_same s)) (.cons (p3.mono (.of_same s)) .nil)))⟩
  stays := fun H H' ⟨⟨h1, r1⟩, ⟨h2, r2⟩, h3, r3⟩ m => ⟨⟨h1.mono m, r1.mono m⟩, ⟨h2.mono m, r2.mono m⟩, h3.mono m, r3.mono m⟩
section
variable {X : Cx} {c : FC} {elts : List Expr} {kk : Nat} {tpos : Pos}
theorem pi_z2 {e e2 : Expr} {ta : TA} {p pos : Pos} (hg : Gl X "zip") (hm : X.mg "zip" = none) (ha : PA X [e, e2] ta) (hs : starEach [e, e2] X.env = (false, eval e X.env) :: starEach [e2] X.env := by rfl) (hpl : (backTo pos (starEach [e2] X.env)).any (·.1) = false := by rfl) :
    PI X (.Tuple elts kk tpos) (.Call (.Name "zip" p) [e, e2] [] pos) (fun σ H R => ta σ H fun vs H1 => ∃ t1 t2 a b xs ys, vs = [.ref a, .ref b] ∧ SqB X.K H1 t1 a xs ∧ SqB X.K H1 t2 b ys ∧ R (ItZ2 X.K t1 a t2 b) H1) := by
  refine ⟨fun pins s σ H R I h => ?_⟩
  refine Call_ (ld_blt I hg hm PyProof.Rows.boot_zip (PyProof.Rows.callWith_type1 (thn (ha.run pos pins s σ H _ I h) fun us s1 ⟨vs, H1, I1, r1, q1⟩ => ?_) hs hpl))
  obtain ⟨t1, t2, a, b, xs, ys, rfl, hq1, hq2, q⟩ := q1
  obtain ⟨u1, u2, rfl, ru1, ru2⟩ := vals2 r1
  cases ru1
  cases ru2
  obtain ⟨its, rv, p1, _, o1, ho1⟩ := inv_seqB I1 hq1
  obtain ⟨its2, rv2, p2, _, o2, ho2⟩ := inv_seqB I1 hq2
  have l1 : a < s1.heap.objs.size := Heap.lt_size ho1
  have l2 : b < s1.heap.objs.size := Heap.lt_size ho2
  refine zip_begins2 (beginsB t1 a its.toArray) (beginsB t2 b its2.toArray) p1 p2 fun h' hz hTI hTO g1 g2 hsz hk => wpAny_pyIter_zip hz ?_
  have I2 : Inv X pins σ H1 { s1 with heap := h' } := I1.kept (t' := s1.toks) hk
  have S := zip_sep2 (N := s1.heap.objs.size) (fp1 := [a]) (fp2 := [b]) (fun x hx => by rw [List.mem_singleton.mp hx]; exact l1) (fun x hx => by rw [List.mem_singleton.mp hx]; exact l2)
  refine ⟨s1.heap.objs.size + 4, [s1.heap.objs.size + 4, s1.heap.objs.size + 2, s1.heap.objs.size + 3, s1.heap.objs.size, s1.heap.objs.size + 1], _, _, H1, rfl, I2, turn_z2 S (Nat.ne_of_lt l1) (Nat.ne_of_lt (Nat.lt_succ_of_lt l2)), ⟨hz, hTI, ⟨_, _, hTO⟩, iterB_new g1, iterB_new g2⟩, fun x hx => ?_, q⟩
  have hle : s1.heap.objs.size ≤ x := by
    have e' : x = s1.heap.objs.size + 4 ∨ x = s1.heap.objs.size + 2 ∨ x = s1.heap.objs.size + 3 ∨ x = s1.heap.objs.size ∨ x = s1.heap.objs.size + 1 := by simpa using hx
    rcases e' with z | z | z | z | z <;> (rw [z]; first | exact Nat.le_refl _ | exact Nat.le_add_right _ _)
  exact I1.fpOk hle (I1.hok.fresh hle)
theorem pi_z3 {e e2 e3 : Expr} {ta : TA} {p pos : Pos} (hg : Gl X "zip") (hm : X.mg "zip" = none) (ha : PA X [e, e2, e3] ta) (hs : starEach [e, e2, e3] X.env = (false, eval e X.env) :: starEach [e2, e3] X.env := by rfl) (hpl : (backTo pos (starEach [e2, e3] X.env)).any (·.1) = false := by rfl) :
    PI X (.Tuple elts kk tpos) (.Call (.Name "zip" p) [e, e2, e3] [] pos) (fun σ H R => ta σ H fun vs H1 => ∃ t1 t2 t3 a b d xs ys zs, vs = [.ref a, .ref b, .ref d] ∧ SqB X.K H1 t1 a xs ∧ SqB X.K H1 t2 b ys ∧ SqB X.K H1 t3 d zs ∧ R (ItZ3 X.K t1 a t2 b t3 d) H1) := by
  refine ⟨fun pins s σ H R I h => ?_⟩
  refine Call_ (ld_blt I hg hm PyProof.Rows.boot_zip (PyProof.Rows.callWith_type1 (thn (ha.run pos pins s σ H _ I h) fun us s1 ⟨vs, H1, I1, r1, q1⟩ => ?_) hs hpl))
  obtain ⟨t1, t2, t3, a, b, d, xs, ys, zs, rfl, hq1, hq2, hq3, q⟩ := q1
  obtain ⟨u1, u2, u3, rfl, ru1, ru2, ru3⟩ : ∃ u1 u2 u3, us = [u1, u2, u3] ∧ RelV (.ref a) u1 ∧ RelV (.ref b) u2 ∧ RelV (.ref d) u3 := by
    cases r1 with
    | cons p q =>
      obtain ⟨w1, w2, e, r2, r3⟩ := vals2 q
      exact ⟨_, w1, w2, by rw [e], p, r2, r3⟩
  cases ru1
  cases ru2
  cases ru3
  obtain ⟨its, rv, p1, _, o1, ho1⟩ := inv_seqB I1 hq1
  obtain ⟨its2, rv2, p2, _, o2, ho2⟩ := inv_seqB I1 hq2
  obtain ⟨its3, rv3, p3, _, o3, ho3⟩ := inv_seqB I1 hq3
  have l1 : a < s1.heap.objs.size := Heap.lt_size ho1
  have l2 : b < s1.heap.objs.size := Heap.lt_size ho2
  have l3 : d < s1.heap.objs.size := Heap.lt_size ho3
  refine zip_begins3 (beginsB t1 a its.toArray) (beginsB t2 b its2.toArray) (beginsB t3 d its3.toArray) p1 p2 p3 fun h' hz hTI hTO g1 g2 g3 hsz hk => wpAny_pyIter_zip hz ?_
  have I2 : Inv X pins σ H1 { s1 with heap := h' } := I1.kept (t' := s1.toks) hk
  have S := zip_sep3 (N := s1.heap.objs.size) (fp1 := [a]) (fp2 := [b]) (fp3 := [d]) (fun x hx => by rw [List.mem_singleton.mp hx]; exact l1) (fun x hx => by rw [List.mem_singleton.mp hx]; exact l2) (fun x hx => by rw [List.mem_singleton.mp hx]; exact l3)
  refine ⟨s1.heap.objs.size + 5, [s1.heap.objs.size + 5, s1.heap.objs.size + 3, s1.heap.objs.size + 4, s1.heap.objs.size, s1.heap.objs.size + 1, s1.heap.objs.size + 2], _, _, H1, rfl, I2, turn_z3 S (Nat.ne_of_lt l1) (Nat.ne_of_lt (Nat.lt_succ_of_lt l2)) (Nat.ne_of_lt (Nat.lt_succ_of_lt (Nat.lt_succ_of_lt l3))), ⟨hz, hTI, ⟨_, _, _, hTO⟩, iterB_new g1, iterB_new g2, iterB_new g3⟩, fun x hx => ?_, q⟩
  have hle : s1.heap.objs.size ≤ x := by
    have e' : x = s1.heap.objs.size + 5 ∨ x = s1.heap.objs.size + 3 ∨ x = s1.heap.objs.size + 4 ∨ x = s1.heap.objs.size ∨ x = s1.heap.objs.size + 1 ∨ x = s1.heap.objs.size + 2 := by simpa using hx
    rcases e' with z | z | z | z | z | z <;> (rw [z]; first | exact Nat.le_refl _ | exact Nat.le_add_right _ _)
  exact I1.fpOk hle (I1.hok.fresh hle)
theorem z2_go {tg : Expr} (htg : isTupG tg) {H1 : Hp} {R : It → Hp → Prop} {vs : List V} {xs ds : List D} (r1 : RpA X.K H1 vs xs) (e2 : dZip2 xs = some ds) (k : ∀ J Gd, ItD tg X.K J ds Gd → Gd H1 → R J H1) : ∃ t1 t2 a b xs ys, vs = [V.ref a, V.ref b] ∧ SqB X.K H1 t1 a xs ∧ SqB X.K H1 t2 b ys ∧ R (ItZ2 X.K t1 a t2 b) H1 := by
  unfold dZip2 at e2
  split at e2
  · rename_i x y
    obtain ⟨us, e3, e4⟩ := Option.bind_eq_some_iff.mp e2
    obtain ⟨ws, e5, rfl⟩ := Option.map_eq_some_iff.mp e4
    cases r1 with
    | cons p q =>
      cases q with
      | cons p' q' =>
        cases q'
        obtain ⟨t1, a, us', rfl, h1, r1⟩ := p.row e3
        obtain ⟨t2, b, ws', rfl, h2, r2⟩ := p'.row e5
        exact ⟨t1, t2, a, b, us', ws', rfl, h1.sq, h2.sq, k _ _ (itd_z2 htg) ⟨⟨h1, r1⟩, h2, r2⟩⟩
  · cases e2
theorem z3_go {tg : Expr} (htg : isTupG tg) {H1 : Hp} {R : It → Hp → Prop} {vs : List V} {xs ds : List D} (r1 : RpA X.K H1 vs xs) (e2 : dZip3 xs = some ds) (k : ∀ J Gd, ItD tg X.K J ds Gd → Gd H1 → R J H1) : ∃ t1 t2 t3 a b d xs ys zs, vs = [V.ref a, V.ref b, V.ref d] ∧ SqB X.K H1 t1 a xs ∧ SqB X.K H1 t2 b ys ∧ SqB X.K H1 t3 d zs ∧ R (ItZ3 X.K t1 a t2 b t3 d) H1 := by
  unfold dZip3 at e2
  split at e2
  · rename_i x y z
    obtain ⟨us, e3, e4⟩ := Option.bind_eq_some_iff.mp e2
    obtain ⟨ws, e5, e6⟩ := Option.bind_eq_some_iff.mp e4
    obtain ⟨zs, e7, rfl⟩ := Option.map_eq_some_iff.mp e6
    cases r1 with
    | cons p q =>
      cases q with
      | cons p' q' =>
        cases q' with
        | cons p'' q'' =>
          cases q''
          obtain ⟨t1, a, us', rfl, h1, r1⟩ := p.row e3
          obtain ⟨t2, b, ws', rfl, h2, r2⟩ := p'.row e5
          obtain ⟨t3, d, zs', rfl, h3, r3⟩ := p''.row e7
          exact ⟨t1, t2, t3, a, b, d, us', ws', zs', rfl, h1.sq, h2.sq, h3.sq, k _ _ (itd_z3 htg) ⟨⟨h1, r1⟩, ⟨h2, r2⟩, h3, r3⟩⟩
  · cases e2
section
variable {Γ : Env_} {e e2 e3 : Expr} {p pos : Pos}
theorem di_zip2 {m : Option (List D)} (hm : X.mg "zip" = none) (h : DA X c Γ [e, e2] m) (hg : Gl X "zip" := by rfl) (hs : NoStar X [e, e2] := by exact ⟨rfl, rfl, trivial⟩) (hpl : (backTo pos (starEach [e2] X.env)).any (·.1) = false := by rfl) : DI X c Γ (.Tuple elts kk tpos) (.Call (.Name "zip" p) [e, e2] [] pos) (m.bind dZip2) := fun ds hd σ H R E k => by
  obtain ⟨x, e1, e4⟩ := Option.bind_eq_some_iff.mp hd
  exact sI_of (pi_z2 hg hm (pa_s hs) hs.1 hpl) (h x e1 σ H _ E fun v H1 s1 r1 => z2_go (tg := .Tuple elts kk tpos) trivial r1 e4 fun J Gd i g => k J H1 Gd s1 i g)
theorem di_zip3 {m : Option (List D)} (hm : X.mg "zip" = none) (h : DA X c Γ [e, e2, e3] m) (hg : Gl X "zip" := by rfl) (hs : NoStar X [e, e2, e3] := by exact ⟨rfl, rfl, rfl, trivial⟩) (hpl : (backTo pos (starEach [e2, e3] X.env)).any (·.1) = false := by rfl) : DI X c Γ (.Tuple elts kk tpos) (.Call (.Name "zip" p) [e, e2, e3] [] pos) (m.bind dZip3) := fun ds hd σ H R E k => by
  obtain ⟨x, e1, e4⟩ := Option.bind_eq_some_iff.mp hd
  exact sI_of (pi_z3 hg hm (pa_s hs) hs.1 hpl) (h x e1 σ H _ E fun v H1 s1 r1 => z3_go (tg := .Tuple elts kk tpos) trivial r1 e4 fun J Gd i g => k J H1 Gd s1 i g)
variable {T : Type} {G : T → Env_}
theorem dxi_zip2 {m : T → Option (List D × T)} (hm : X.mg "zip" = none) (h : DXA X c G [e, e2] m) (hg : Gl X "zip" := by rfl) (hs : NoStar X [e, e2] := by exact ⟨rfl, rfl, trivial⟩) (hpl : (backTo pos (starEach [e2] X.env)).any (·.1) = false := by rfl) : DXI X c G (.Tuple elts kk tpos) (.Call (.Name "zip" p) [e, e2] [] pos) (bindX m dZip2) := fun t ds t' hd σ H R E k => by
  obtain ⟨x, e1, e4⟩ := bindX_eq hd
  exact sI_of (pi_z2 hg hm (pa_s hs) hs.1 hpl) (h t x t' e1 σ H _ E fun v H1 E1 s1 r1 => z2_go (tg := .Tuple elts kk tpos) trivial r1 e4 fun J Gd i g => k J H1 Gd E1 s1 i g)
theorem dxi_zip3 {m : T → Option (List D × T)} (hm : X.mg "zip" = none) (h : DXA X c G [e, e2, e3] m) (hg : Gl X "zip" := by rfl) (hs : NoStar X [e, e2, e3] := by exact ⟨rfl, rfl, rfl, trivial⟩) (hpl : (backTo pos (starEach [e2, e3] X.env)).any (·.1) = false := by rfl) : DXI X c G (.Tuple elts kk tpos) (.Call (.Name "zip" p) [e, e2, e3] [] pos) (bindX m dZip3) := fun t ds t' hd σ H R E k => by
  obtain ⟨x, e1, e4⟩ := bindX_eq hd
  exact sI_of (pi_z3 hg hm (pa_s hs) hs.1 hpl) (h t x t' e1 σ H _ E fun v H1 E1 s1 r1 => z3_go (tg := .Tuple elts kk tpos) trivial r1 e4 fun J Gd i g => k J H1 Gd E1 s1 i g)
end
end
end DL

set_option Elab.async false
set_option linter.all false
set_option maxRecDepth 100000
set_option maxHeartbeats 2000000
set_option autoImplicit false
namespace DL
open PySem PySem.Spec PyProof.Rows L2
/-! ### defs: promises that hold where no guard stands (repr asks for that) -/
abbrev Sp0 := List V → Hp → VK → Prop
structure FnG (P : Program) (w : World) (K : Fr_) (mg : Str → Option Value) (base : Heap) (k : Nat) (f : Addr) (fd : FuncData) (ps : List Str) (sp : Sp0) : Prop where
  many : ∀ {vs : List V} {H : Hp} {Q : VK}, sp vs H Q → vs.length = ps.length
  runs : ∀ {A : Around} {outer : List Env} {s : Shared} {H : Hp} {args : Args} {us : List Value} {vs : List V} {Q : VK}, Room k A → A.guards = some [] → Env0 P w K mg base A outer s H → BindsTo s fd args (ps.zip us) → Vals vs us → sp vs H Q →
    codeAny (model P w) A (.call (.ref f) args) (CR CX0 outer P w H s Q E0) s
structure CalG (P : Program) (w : World) (K : Fr_) (mg : Str → Option Value) (base : Heap) (k : Nat) (x : Str) (sp : Sp0) : Prop where
  ex : ∃ (f : Addr) (fd : FuncData) (ps : List Str), FnG P w K mg base k f fd ps sp ∧ mg x = some (.ref f) ∧ PySem.W.keepIn K (.ref f) = true ∧ Binds K fd ps []
theorem CalG.up {P : Program} {w : World} {K : Fr_} {mg : Str → Option Value} {base : Heap} {j k : Nat} {x : Str} {sp : Sp0} (c : CalG P w K mg base j x sp) (h : j ≤ k) : CalG P w K mg base k x sp := by
  obtain ⟨f, fd, ps, F, r⟩ := c.ex
  exact ⟨f, fd, ps, ⟨F.many, fun hr => F.runs (hr.mono h)⟩, r⟩
/-- the context of a body that lets nothing out -/
abbrev BX (P : Program) (w : World) (K : Fr_) (mg : Str → Option Value) (base : Heap) (N : List Str) (x : Str) (scope : Scope) (f : Addr) (cdv : Value) (A : Around) (outer : List Env) (s : Shared) (H : Hp) : Cx := (cxOf CX0 P w K mg base N x scope f cdv A outer s H E0).nox
section
variable {P : Program} {w : World} {K : Fr_} {mg : Str → Option Value} {base : Heap} {x : Str} {params : Arguments} {body : List Stmt} {scope : Scope} {N ps : List Str} {k : Nat} {sp : Sp0}
/-- a def by its body's own meaning -/
theorem calG_of (F : ∃ (f : Addr) (fd : FuncData), FunD K x x params body scope [] [] f fd ∧ mg x = some (.ref f)) (S : FnScope N ps scope)
    (hb : ∀ (kV doc pm : Value) (an : Option Addr) (cdv ct : Value) (us : List Value), us.length = ps.length → bindArgs (PySem.W.fnOf x x params body scope .none kV doc pm an cdv ct) ⟨us, []⟩ = pure (ps.zip us))
    (many : ∀ {vs : List V} {H : Hp} {Q : VK}, sp vs H Q → vs.length = ps.length)
    (run : ∀ (f : Addr) (cdv : Value) (A : Around) (outer : List Env) (s : Shared) (H : Hp) (vs : List V) (Q : VK), Room k (A.deeper (envOfC x scope s.heap.objs.size f cdv)) → A.guards = some [] → sp vs H Q →
      sSs (BX P w K mg base N x scope f cdv A outer s H) body { nx := fun _ H' => Q .non H', rt := Q } (L2.start N vs) H) : CalG P w K mg base (k + 1) x sp := by
  obtain ⟨f, fd, FD, hm⟩ := F
  have hbd : Binds K fd ps [] := FD.bindsN hb
  refine ⟨f, fd, ps, ⟨many, ?_⟩, hm, FD.kp, hbd⟩
  obtain ⟨oc, od, dV, kV, doc, pm, an, cdv, ct, osl, rfl, lk, hcd, _, _⟩ := FD.ex
  intro A outer s H args us vs Q room gd env bt rv hsp
  have hK : K.In s.heap := env.mod.kin.keeps fun b o e => (env.bs b o e).1
  have hL : s.heap.NoLimit := env.mod.nolimit.keeps fun b o e => (env.bs b o e).1
  have kinds : ∀ y ∈ ps.zip us, scope.names.lookup y.1 = some .local ∨ (scope.names.lookup y.1 = some .cell ∧ ((cellsFrom (s.heap.objs.size + 1) scope.names []).lookup y.1).isSome = true) := by
    intro y hy
    have z := S.par y.1 (List.of_mem_zip hy).1
    exact z.imp id fun q => ⟨q, PySem.W.cellsFrom_some _ _ _ (.inl q)⟩
  apply codeAny_call_function room.depth (hK _ _ lk) rfl S.co S.gen rfl (PySem.W.codeRec_of hK hcd)
  apply bt
  refine wpAny_newFunctionEnv_cells S.kind kinds fun env' he s1 inC => ?_
  subst he
  refine ⟨hL.keeps inC.toInCall.keep, codeAny_func ?_⟩
  have I0 := inv_start (CX := CX0) (E := E0) (P := P) (w := w) (K := K) (mg := mg) (base := base) S room.hd env (many hsp) rv inC
  have body_ := (pss_s body).nox.run [] s1 (L2.start N vs) H _ I0 (run f cdv A outer s H vs Q (room.deeper _) gd hsp)
  refine wpAny_mono body_ (fun fl s' hs => ?_) fun e s' hs => hs
  have done : ∀ {σ' : L2.St} {H' : Hp} {v : V} {u : Value}, Inv (cxOf CX0 P w K mg base N x scope f cdv A outer s H E0) [] σ' H' s' → RelV v u → Q v H' → CE outer P w H s Q u s' := by
    intro σ' H' v u J r q
    exact ⟨v, H', J.os, J.bare, J.base, J.hok, r, q⟩
  match fl, hs with
  | .ret u, ⟨v, σ', H', J, r, q⟩ => exact done J r q
  | .next, ⟨σ', H', J, q⟩ => exact done (v := V.non) (u := Value.none) J rfl q
  | .brk, ⟨_, _, _, q⟩ => exact q.elim
  | .cont, ⟨_, _, _, q⟩ => exact q.elim
end
/-! calls -/
section
variable {X : Cx} {k : Nat} {x : Str} {sp : Sp0} {p pos : Pos} {e : Expr} {es : List Expr} {t : TA}
theorem pe_callG (F : CalG X.prog X.w X.K X.mg X.base k x sp) (room : Room k X.A) (gd : X.A.guards = some []) (hg : Gl X x) (ha : PA X (e :: es) t) (hdb : (x == ("__debug__" : Str)) = false) (he : starEach (e :: es) X.env = (false, eval e X.env) :: starEach es X.env) (hpl : (backTo pos (starEach es X.env)).any (·.1) = false) :
    PE X (.Call (.Name x p) (e :: es) [] pos) (fun σ H Q => t σ H fun vs H1 => sp vs H1 Q) := by
  obtain ⟨f, fd, ps, FF, hm, hk, hb⟩ := F.ex
  constructor
  intro pins s σ H Q I h
  apply wpAny_Call_Name_kw
  apply ld_glob I hg hm _ hdb
  refine PySem.W.callWith_K (h₀ := X.base) I.ok.mod.kin hk (thn (ha.run pos pins s σ H _ I h) fun us s1 ⟨vs, H1, I1, r, q⟩ => ⟨I1.kIn, ?_⟩) he hpl
  have hl : us.length = ps.length := r.length.symm.trans (FF.many q)
  have bt := hb s1 us I1.kIn (by rw [List.append_nil]; exact hl)
  rw [List.append_nil] at bt
  refine wpAny_call (codeAny_mono (FF.runs (args := ⟨us, []⟩) room gd I1.env0 bt r q) fun rr s' hq => ?_)
  match rr, hq with
  | .ok (.ret u), hq => exact I1.after hq
theorem pe_callG0 (F : CalG X.prog X.w X.K X.mg X.base k x sp) (room : Room k X.A) (gd : X.A.guards = some []) (hg : Gl X x) (hdb : (x == ("__debug__" : Str)) = false) : PE X (.Call (.Name x p) [] [] pos) (fun σ H Q => sp [] H Q) := by
  obtain ⟨f, fd, ps, FF, hm, hk, hb⟩ := F.ex
  constructor
  intro pins s σ H Q I h
  apply wpAny_Call_Name_kw
  apply ld_glob I hg hm _ hdb
  refine PySem.W.callWith_K0 I.kIn hk ?_
  have hl : ([] : List Value).length = ps.length := FF.many h
  have bt := hb s [] I.kIn hl
  refine wpAny_call (codeAny_mono (FF.runs (args := ⟨[], []⟩) room gd I.env0 bt .nil h) fun rr s' hq => ?_)
  match rr, hq with
  | .ok (.ret u), hq => exact I.after hq
end
/-! promises -/
def spP (K : Fr_) (g : List D → Option D) : Sp0 := fun vs H Q => ∃ ds z, RpA K H vs ds ∧ g ds = some z ∧ ∀ v H', Same H H' → Rp K H' v z → Q v H'
def spF (K : Fr_) (g : List D → Option (List D)) : Sp0 := fun vs H Q => ∃ ds z, RpA K H vs ds ∧ g ds = some z ∧ ∀ a H' xs, H a = none → Same H H' → H' a = some (.lst xs) → RpA K H' xs z → Q (.ref a) H'
/-- the first parameter is a list that the def may change -/
def spM (K : Fr_) (g : List D → List D → Option (D × List D)) : Sp0 := fun vs H Q => ∃ a us xs ps ds z ps', vs = V.ref a :: us ∧ H a = some (.lst xs) ∧ RpA K H xs ps ∧ RpA K H us ds ∧ g ps ds = some (z, ps') ∧
  ∀ v H' ys, (∀ b o, H b = some o → b ≠ a → H' b = some o) → H' a = some (.lst ys) → RpA K H' ys ps' → Rp K H' v z → Q v H'
def spMF (K : Fr_) (g : List D → List D → Option (List D × List D)) : Sp0 := fun vs H Q => ∃ a us xs ps ds z ps', vs = V.ref a :: us ∧ H a = some (.lst xs) ∧ RpA K H xs ps ∧ RpA K H us ds ∧ g ps ds = some (z, ps') ∧
  ∀ b H' ys zs, H b = none → (∀ b o, H b = some o → b ≠ a → H' b = some o) → H' a = some (.lst ys) → RpA K H' ys ps' → H' b = some (.lst zs) → RpA K H' zs z → Q (.ref b) H'
def envP (n : Nat) (ds : List D) : Env_ := ds.map .imm ++ List.replicate (n - ds.length) .any
theorem start_at {N : List Str} {vs : List V} {i : Nat} {v : V} (h : vs[i]? = some v) : (L2.start N vs)[i]? = some (some v) := by
  unfold L2.start
  have hl := (List.getElem?_eq_some_iff.mp h).1
  rw [List.getElem?_append_left (by rw [List.length_map]; exact hl), List.getElem?_map, h]
  rfl
theorem envP_own {n : Nat} {ds : List D} {i : Nat} {k : Cell} (h : (envP n ds)[i]? = some k) : k.isOwn = false := by
  unfold envP at h
  rcases List.mem_append.mp (List.mem_of_getElem? h) with z | z
  · obtain ⟨d, _, rfl⟩ := List.mem_map.mp z
    rfl
  · rw [List.eq_of_mem_replicate z]
    rfl
theorem env_start {K : Fr_} {H : Hp} {N : List Str} {vs : List V} {ds : List D} (r : RpA K H vs ds) (hl : ds.length ≤ N.length) : EnvOk K ⟨H, []⟩ (L2.start N vs) H (envP N.length ds) := by
  refine ⟨fun i k h => ?_, fun i j k l a hij h1 h2 => ?_, fun b o h _ => h, fun a ⟨i, k, h1, h2, _⟩ => ?_, fun p hp => (by cases hp), ?_⟩
  · by_cases hi : i < ds.length
    · unfold envP at h
      rw [List.getElem?_append_left (by rw [List.length_map]; exact hi), List.getElem?_map, List.getElem?_eq_getElem hi] at h
      cases h
      obtain ⟨v, e1, e2⟩ := r.get (List.getElem?_eq_getElem hi)
      exact ⟨v, start_at e1, e2⟩
    · unfold envP at h
      rw [List.getElem?_append_right (by rw [List.length_map]; omega)] at h
      rw [List.eq_of_mem_replicate (List.mem_of_getElem? h)]
      trivial
  · rw [envP_own h1] at h2
    cases h2
  · rw [envP_own h1] at h2
    cases h2
  · unfold L2.start envP
    rw [List.length_append, List.length_append, List.length_map, List.length_map, List.length_replicate, List.length_replicate, r.length]
def envM (n : Nat) (ps ds : List D) : Env_ := .own ps :: (ds.map .imm ++ List.replicate (n - 1 - ds.length) .any)
theorem env_startM {K : Fr_} {H : Hp} {N : List Str} {a : Addr} {us xs : List V} {ps ds : List D} (ha : H a = some (.lst xs)) (rp : RpA K H xs ps) (r : RpA K H us ds) (hl : ds.length + 1 ≤ N.length) : EnvOk K ⟨H, [(0, a)]⟩ (L2.start N (.ref a :: us)) H (envM N.length ps ds) := by
  have tail : ∀ {i : Nat} {k : Cell}, (envM N.length ps ds)[i + 1]? = some k → (envP (N.length - 1) ds)[i]? = some k := fun h => h
  have own0 : ∀ {i : Nat} {k : Cell}, (envM N.length ps ds)[i]? = some k → k.isOwn = true → i = 0 := fun {i k} h ho => by
    cases i with
    | zero => rfl
    | succ i =>
      rw [envP_own (tail h)] at ho
      cases ho
  refine ⟨fun i k h => ?_, fun i j k l b hij h1 h2 h3 h4 _ _ => hij ((own0 h1 h2).trans (own0 h3 h4).symm), fun b o h _ => h, fun b ⟨i, k, h1, h2, h3⟩ => ?_, fun p hp => ?_, ?_⟩
  · cases i with
    | zero =>
      cases h
      exact ⟨a, xs, start_at rfl, ha, rp⟩
    | succ i =>
      have h' := tail h
      by_cases hi : i < ds.length
      · unfold envP at h'
        rw [List.getElem?_append_left (by rw [List.length_map]; exact hi), List.getElem?_map, List.getElem?_eq_getElem hi] at h'
        cases h'
        obtain ⟨v, e1, e2⟩ := r.get (List.getElem?_eq_getElem hi)
        exact ⟨v, start_at (by simpa using e1), e2⟩
      · unfold envP at h'
        rw [List.getElem?_append_right (by rw [List.length_map]; omega)] at h'
        rw [List.eq_of_mem_replicate (List.mem_of_getElem? h')]
        trivial
  · have e := own0 h1 h2
    subst e
    rw [start_at (v := V.ref a) rfl] at h3
    cases h3
    exact .inl ⟨(0, a), List.mem_singleton.mpr rfl, rfl⟩
  · rw [List.mem_singleton.mp hp]
    exact ⟨start_at rfl, _, rfl, rfl⟩
  · unfold L2.start envM
    have := r.length
    simp only [List.length_append, List.length_cons, List.length_map, List.length_replicate]
    omega
/-! ends -/
abbrev GE : Empty → Env_ := fun e => nomatch e
def RKp (K : Fr_) (H : Hp) : D → V → Hp → Prop := fun d v H' => Same H H' ∧ Rp K H' v d
def RKf (K : Fr_) (H : Hp) : List D → V → Hp → Prop := fun d v H' => Same H H' ∧ ∃ a xs, v = .ref a ∧ H a = none ∧ H' a = some (.lst xs) ∧ RpA K H' xs d
def RKm (K : Fr_) (H : Hp) (a : Addr) : D × List D → V → Hp → Prop := fun q v H' => (∀ b o, H b = some o → b ≠ a → H' b = some o) ∧ (∃ ys, H' a = some (.lst ys) ∧ RpA K H' ys q.2) ∧ Rp K H' v q.1
def RKmf (K : Fr_) (H : Hp) (a : Addr) : List D × List D → V → Hp → Prop := fun q v H' => (∀ b o, H b = some o → b ≠ a → H' b = some o) ∧ (∃ ys, H' a = some (.lst ys) ∧ RpA K H' ys q.2) ∧ ∃ b zs, v = .ref b ∧ H b = none ∧ H' b = some (.lst zs) ∧ RpA K H' zs q.1
theorem EnvOk.same0 {K : Fr_} {H H' : Hp} {σ : St} {Γ : Env_} (E : EnvOk K ⟨H, []⟩ σ H' Γ) : Same H H' := fun b o h => E.pres b o h fun p hp => by cases hp
theorem EnvOk.but {K : Fr_} {H H' : Hp} {a : Addr} {σ : St} {Γ : Env_} (E : EnvOk K ⟨H, [(0, a)]⟩ σ H' Γ) : ∀ b o, H b = some o → b ≠ a → H' b = some o := fun b o h hne => E.pres b o h fun p hp e => hne (by rw [List.mem_singleton.mp hp] at e; exact e.symm)
theorem EnvOk.pot {K : Fr_} {H H' : Hp} {a : Addr} {σ : St} {Γ : Env_} {ps : List D} (E : EnvOk K ⟨H, [(0, a)]⟩ σ H' Γ) (h : Γ[0]? = some (.own ps)) : ∃ ys, H' a = some (.lst ys) ∧ RpA K H' ys ps := by
  obtain ⟨b, xs, e1, e2, e3⟩ := E.ownAt h
  have e4 := (E.pins (0, a) (List.mem_singleton.mpr rfl)).1
  rw [e4] at e1
  cases e1
  exact ⟨xs, e2, e3⟩
theorem rkp {K : Fr_} {H : Hp} {Γ : Env_} : ∀ (d : D) (v : V) (σ : St) (H' : Hp), EnvOk K ⟨H, []⟩ σ H' Γ → Rp K H' v d → RKp K H d v H' := fun d v σ H' E r => ⟨E.same0, r⟩
theorem rkf {K : Fr_} {H : Hp} {Γ : Env_} : ∀ (d : List D) (a : Addr) (xs : List V) (σ : St) (H' : Hp), EnvOk K ⟨H, []⟩ σ H' Γ → H a = none → H' a = some (.lst xs) → RpA K H' xs d → RKf K H d (.ref a) H' := fun d a xs σ H' E h0 ha r => ⟨E.same0, a, xs, rfl, h0, ha, r⟩
theorem rkm {K : Fr_} {H : Hp} {a : Addr} {Γ : Env_} {ps : List D} (h : Γ[0]? = some (.own ps) := by rfl) : ∀ (d : D) (v : V) (σ : St) (H' : Hp), EnvOk K ⟨H, [(0, a)]⟩ σ H' Γ → Rp K H' v d → RKm K H a (d, ps) v H' := fun d v σ H' E r => ⟨E.but, E.pot h, r⟩
theorem rkmf {K : Fr_} {H : Hp} {a : Addr} {Γ : Env_} {ps : List D} (h : Γ[0]? = some (.own ps) := by rfl) : ∀ (d : List D) (b : Addr) (xs : List V) (σ : St) (H' : Hp), EnvOk K ⟨H, [(0, a)]⟩ σ H' Γ → H b = none → H' b = some (.lst xs) → RpA K H' xs d → RKmf K H a (d, ps) (.ref b) H' := fun d b xs σ H' E h0 hb r => ⟨E.but, E.pot h, b, xs, rfl, h0, hb, r⟩
def finP : Fl Unit Empty D → Option D
  | .rt d => some d
  | .nx _ => some .none
  | _ => none
def finF : Fl Unit Empty (List D) → Option (List D)
  | .rt d => some d
  | _ => none
def finM : Fl (List D) Empty (D × List D) → Option (D × List D)
  | .rt d => some d
  | .nx ps => some (.none, ps)
  | _ => none
def finMF : Fl (List D) Empty (List D × List D) → Option (List D × List D)
  | .rt d => some d
  | _ => none
section
variable {P : Program} {w : World} {K : Fr_} {mg : Str → Option Value} {base : Heap} {x : Str} {params : Arguments} {body : List Stmt} {scope : Scope} {N ps : List Str} {k : Nat}
theorem calP (F : ∃ (f : Addr) (fd : FuncData), FunD K x x params body scope [] [] f fd ∧ mg x = some (.ref f)) (S : FnScope N ps scope)
    (hb : ∀ (kV doc pm : Value) (an : Option Addr) (cdv ct : Value) (us : List Value), us.length = ps.length → bindArgs (PySem.W.fnOf x x params body scope .none kV doc pm an cdv ct) ⟨us, []⟩ = pure (ps.zip us)) (hN : ps.length ≤ N.length)
    (mb : List D → Option (Fl Unit Empty D)) (hl : ∀ ds o, mb ds = some o → ds.length = ps.length)
    (run : ∀ (f : Addr) (cdv : Value) (A : Around) (outer : List Env) (s : Shared) (H : Hp) (ds : List D), ds.length = ps.length → Room k (A.deeper (envOfC x scope s.heap.objs.size f cdv)) → A.guards = some [] →
      DB (BX P w K mg base N x scope f cdv A outer s H) ⟨H, []⟩ (fun _ => List.replicate N.length .any) GE (RKp K H) (envP N.length ds) body (mb ds)) : CalG P w K mg base (k + 1) x (spP K fun ds => (mb ds).bind finP) := by
  refine calG_of F S hb (fun {vs H Q} ⟨ds, z, r, e, _⟩ => ?_) fun f cdv A outer s H vs Q room gd ⟨ds, z, r, e, kq⟩ => ?_
  · obtain ⟨o, e1, _⟩ := Option.bind_eq_some_iff.mp e
    rw [r.length, hl ds o e1]
  · obtain ⟨o, e1, e2⟩ := Option.bind_eq_some_iff.mp e
    have hd := hl ds o e1
    refine run f cdv A outer s H ds hd room gd o e1 _ H _ (env_start r (by rw [hd]; exact hN)) ⟨?_, fun b => (nomatch b), fun b => (nomatch b), ?_⟩
    · rintro n rfl σ' H' E _
      cases e2
      exact kq _ _ E.same0 .non
    · rintro d rfl v H' ⟨q1, q2⟩
      cases e2
      exact kq v H' q1 q2
theorem calF (F : ∃ (f : Addr) (fd : FuncData), FunD K x x params body scope [] [] f fd ∧ mg x = some (.ref f)) (S : FnScope N ps scope)
    (hb : ∀ (kV doc pm : Value) (an : Option Addr) (cdv ct : Value) (us : List Value), us.length = ps.length → bindArgs (PySem.W.fnOf x x params body scope .none kV doc pm an cdv ct) ⟨us, []⟩ = pure (ps.zip us)) (hN : ps.length ≤ N.length)
    (mb : List D → Option (Fl Unit Empty (List D))) (hl : ∀ ds o, mb ds = some o → ds.length = ps.length)
    (run : ∀ (f : Addr) (cdv : Value) (A : Around) (outer : List Env) (s : Shared) (H : Hp) (ds : List D), ds.length = ps.length → Room k (A.deeper (envOfC x scope s.heap.objs.size f cdv)) → A.guards = some [] →
      DB (BX P w K mg base N x scope f cdv A outer s H) ⟨H, []⟩ (fun _ => List.replicate N.length .any) GE (RKf K H) (envP N.length ds) body (mb ds)) : CalG P w K mg base (k + 1) x (spF K fun ds => (mb ds).bind finF) := by
  refine calG_of F S hb (fun {vs H Q} ⟨ds, z, r, e, _⟩ => ?_) fun f cdv A outer s H vs Q room gd ⟨ds, z, r, e, kq⟩ => ?_
  · obtain ⟨o, e1, _⟩ := Option.bind_eq_some_iff.mp e
    rw [r.length, hl ds o e1]
  · obtain ⟨o, e1, e2⟩ := Option.bind_eq_some_iff.mp e
    have hd := hl ds o e1
    refine run f cdv A outer s H ds hd room gd o e1 _ H _ (env_start r (by rw [hd]; exact hN)) ⟨?_, fun b => (nomatch b), fun b => (nomatch b), ?_⟩
    · rintro n rfl σ' H' E _
      cases e2
    · rintro d rfl v H' ⟨q1, a, xs, rfl, q2, q3, q4⟩
      cases e2
      exact kq a H' xs q2 q1 q3 q4
theorem calM (F : ∃ (f : Addr) (fd : FuncData), FunD K x x params body scope [] [] f fd ∧ mg x = some (.ref f)) (S : FnScope N ps scope)
    (hb : ∀ (kV doc pm : Value) (an : Option Addr) (cdv ct : Value) (us : List Value), us.length = ps.length → bindArgs (PySem.W.fnOf x x params body scope .none kV doc pm an cdv ct) ⟨us, []⟩ = pure (ps.zip us)) (hN : ps.length ≤ N.length)
    (mb : List D → List D → Option (Fl (List D) Empty (D × List D))) (hl : ∀ qs ds o, mb qs ds = some o → ds.length + 1 = ps.length)
    (run : ∀ (f : Addr) (cdv : Value) (A : Around) (outer : List Env) (s : Shared) (H : Hp) (a : Addr) (qs ds : List D), ds.length + 1 = ps.length → Room k (A.deeper (envOfC x scope s.heap.objs.size f cdv)) → A.guards = some [] →
      DB (BX P w K mg base N x scope f cdv A outer s H) ⟨H, [(0, a)]⟩ (fun qs => .own qs :: List.replicate (N.length - 1) .any) GE (RKm K H a) (envM N.length qs ds) body (mb qs ds)) : CalG P w K mg base (k + 1) x (spM K fun qs ds => (mb qs ds).bind finM) := by
  refine calG_of F S hb (fun {vs H Q} ⟨a, us, xs, qs, ds, z, ps', ev, ha, rx, r, e, _⟩ => ?_) fun f cdv A outer s H vs Q room gd ⟨a, us, xs, qs, ds, z, ps', ev, ha, rx, r, e, kq⟩ => ?_
  · obtain ⟨o, e1, _⟩ := Option.bind_eq_some_iff.mp (show (mb qs ds).bind _ = some (z, ps') from e)
    rw [ev, List.length_cons, r.length, hl qs ds o e1]
  · subst ev
    obtain ⟨o, e1, e2⟩ := Option.bind_eq_some_iff.mp (show (mb qs ds).bind _ = some (z, ps') from e)
    have hd := hl qs ds o e1
    refine run f cdv A outer s H a qs ds hd room gd o e1 _ H _ (env_startM ha rx r (by rw [hd]; exact hN)) ⟨?_, fun b => (nomatch b), fun b => (nomatch b), ?_⟩
    · rintro n rfl σ' H' E _
      cases e2
      obtain ⟨ys, h1, h2⟩ := E.pot rfl
      exact kq _ _ ys E.but h1 h2 .non
    · rintro d rfl v H' ⟨q1, ⟨ys, q2, q3⟩, q4⟩
      cases e2
      exact kq v H' ys q1 q2 q3 q4
theorem calMF (F : ∃ (f : Addr) (fd : FuncData), FunD K x x params body scope [] [] f fd ∧ mg x = some (.ref f)) (S : FnScope N ps scope)
    (hb : ∀ (kV doc pm : Value) (an : Option Addr) (cdv ct : Value) (us : List Value), us.length = ps.length → bindArgs (PySem.W.fnOf x x params body scope .none kV doc pm an cdv ct) ⟨us, []⟩ = pure (ps.zip us)) (hN : ps.length ≤ N.length)
    (mb : List D → List D → Option (Fl (List D) Empty (List D × List D))) (hl : ∀ qs ds o, mb qs ds = some o → ds.length + 1 = ps.length)
    (run : ∀ (f : Addr) (cdv : Value) (A : Around) (outer : List Env) (s : Shared) (H : Hp) (a : Addr) (qs ds : List D), ds.length + 1 = ps.length → Room k (A.deeper (envOfC x scope s.heap.objs.size f cdv)) → A.guards = some [] →
      DB (BX P w K mg base N x scope f cdv A outer s H) ⟨H, [(0, a)]⟩ (fun qs => .own qs :: List.replicate (N.length - 1) .any) GE (RKmf K H a) (envM N.length qs ds) body (mb qs ds)) : CalG P w K mg base (k + 1) x (spMF K fun qs ds => (mb qs ds).bind finMF) := by
  refine calG_of F S hb (fun {vs H Q} ⟨a, us, xs, qs, ds, z, ps', ev, ha, rx, r, e, _⟩ => ?_) fun f cdv A outer s H vs Q room gd ⟨a, us, xs, qs, ds, z, ps', ev, ha, rx, r, e, kq⟩ => ?_
  · obtain ⟨o, e1, _⟩ := Option.bind_eq_some_iff.mp (show (mb qs ds).bind _ = some (z, ps') from e)
    rw [ev, List.length_cons, r.length, hl qs ds o e1]
  · subst ev
    obtain ⟨o, e1, e2⟩ := Option.bind_eq_some_iff.mp (show (mb qs ds).bind _ = some (z, ps') from e)
    have hd := hl qs ds o e1
    refine run f cdv A outer s H a qs ds hd room gd o e1 _ H _ (env_startM ha rx r (by rw [hd]; exact hN)) ⟨?_, fun b => (nomatch b), fun b => (nomatch b), ?_⟩
    · rintro n rfl σ' H' E _
      cases e2
    · rintro d rfl v H' ⟨q1, ⟨ys, q2, q3⟩, b, zs, rfl, q4, q5, q6⟩
      cases e2
      exact kq b H' ys zs q4 q1 q2 q3 q5 q6
end
end DL

set_option Elab.async false
set_option linter.all false
set_option maxRecDepth 100000
set_option maxHeartbeats 2000000
set_option autoImplicit false
namespace DL
open PySem PySem.Spec PyProof.Rows L2
/-! ### calls of defs -/
section
variable {X : Cx} {c : FC} {Γ : Env_} {k : Nat} {x : Str} {p pos : Pos} {e : Expr} {es : List Expr}
theorem de_call {g : List D → Option D} {m : Option (List D)} (F : CalG X.prog X.w X.K X.mg X.base k x (spP X.K g)) (room : Room k X.A) (gd : X.A.guards = some []) (ha : DA X c Γ (e :: es) m) (hg : Gl X x := by rfl) (hs : NoStar X (e :: es) := by exact ⟨rfl, rfl, rfl, rfl, trivial⟩) (hdb : (x == ("__debug__" : Str)) = false := by decide) (hpl : (backTo pos (starEach es X.env)).any (·.1) = false := by rfl) :
    DE X c Γ (.Call (.Name x p) (e :: es) [] pos) (m.bind g) := fun d hd σ H Q E kq => by
  obtain ⟨ds, e1, e2⟩ := Option.bind_eq_some_iff.mp hd
  exact sE_of (pe_callG F room gd hg (pa_s hs) hdb hs.1 hpl) (ha ds e1 σ H _ E fun vs H1 s1 r1 => ⟨ds, d, r1, e2, fun v H2 s2 r2 => kq v H2 (s1.trans s2) r2⟩)
theorem de_call0 {g : List D → Option D} (F : CalG X.prog X.w X.K X.mg X.base k x (spP X.K g)) (room : Room k X.A) (gd : X.A.guards = some []) (hg : Gl X x := by rfl) (hdb : (x == ("__debug__" : Str)) = false := by decide) : DE X c Γ (.Call (.Name x p) [] [] pos) (g []) := fun d hd σ H Q E kq =>
  sE_of (pe_callG0 F room gd hg hdb) ⟨[], d, .nil, hd, fun v H2 s2 r2 => kq v H2 s2 r2⟩
theorem df_call {g : List D → Option (List D)} {m : Option (List D)} (F : CalG X.prog X.w X.K X.mg X.base k x (spF X.K g)) (room : Room k X.A) (gd : X.A.guards = some []) (ha : DA X c Γ (e :: es) m) (hg : Gl X x := by rfl) (hs : NoStar X (e :: es) := by exact ⟨rfl, rfl, rfl, rfl, trivial⟩) (hdb : (x == ("__debug__" : Str)) = false := by decide) (hpl : (backTo pos (starEach es X.env)).any (·.1) = false := by rfl) :
    DF X c Γ (.Call (.Name x p) (e :: es) [] pos) (m.bind g) := fun d hd σ H Q E kq => by
  obtain ⟨ds, e1, e2⟩ := Option.bind_eq_some_iff.mp hd
  exact sE_of (pe_callG F room gd hg (pa_s hs) hdb hs.1 hpl) (ha ds e1 σ H _ E fun vs H1 s1 r1 => ⟨ds, d, r1, e2, fun a H2 xs hn s2 h2 r2 => kq a H2 xs (s1.free hn) (s1.trans s2) h2 r2⟩)
theorem df_call0 {g : List D → Option (List D)} (F : CalG X.prog X.w X.K X.mg X.base k x (spF X.K g)) (room : Room k X.A) (gd : X.A.guards = some []) (hg : Gl X x := by rfl) (hdb : (x == ("__debug__" : Str)) = false := by decide) : DF X c Γ (.Call (.Name x p) [] [] pos) (g []) := fun d hd σ H Q E kq =>
  sE_of (pe_callG0 F room gd hg hdb) ⟨[], d, .nil, hd, fun a H2 xs hn s2 h2 r2 => kq a H2 xs hn s2 h2 r2⟩
/-- f(list just made, ..), f may change the list -/
theorem de_callN {g : List D → List D → Option (D × List D)} {m : Option (List D)} {ms : Option (List D)} (F : CalG X.prog X.w X.K X.mg X.base k x (spM X.K g)) (room : Room k X.A) (gd : X.A.guards = some []) (he : DF X c Γ e m) (ha : DA X c Γ es ms) (hg : Gl X x := by rfl) (hs : NoStar X (e :: es) := by exact ⟨rfl, rfl, rfl, rfl, trivial⟩) (hdb : (x == ("__debug__" : Str)) = false := by decide) (hpl : (backTo pos (starEach es X.env)).any (·.1) = false := by rfl) :
    DE X c Γ (.Call (.Name x p) (e :: es) [] pos) (m.bind fun ps => ms.bind fun ds => (g ps ds).map (·.1)) := fun d hd σ H Q E kq => by
  obtain ⟨ps, e1, e2⟩ := Option.bind_eq_some_iff.mp hd
  obtain ⟨ds, e3, e4⟩ := Option.bind_eq_some_iff.mp e2
  obtain ⟨⟨z, ps'⟩, e5, rfl⟩ := Option.map_eq_some_iff.mp e4
  refine sE_of (pe_callG F room gd hg (pa_s hs) hdb hs.1 hpl) (he ps e1 σ H _ E fun a H1 xs hn s1 h1 r1 => ha ds e3 σ H1 _ (E.same s1) fun vs H2 s2 r2 => ⟨a, vs, xs, ps, ds, z, ps', rfl, s2 _ _ h1, r1.mono (.of_same s2), r2, e5, fun v H3 ys f1 f2 f3 f4 => kq v H3 (fun b o hb => f1 b o (s2 _ _ (s1 _ _ hb)) (ne_of_none hb hn)) f4⟩)
end
section
variable {X : Cx} {c : FC} {k : Nat} {x y : Str} {p pos py : Pos} {e : Expr} {es : List Expr}
theorem dx_call {T : Type} {G : T → Env_} {g : List D → Option D} {m : T → Option (List D × T)} (F : CalG X.prog X.w X.K X.mg X.base k x (spP X.K g)) (room : Room k X.A) (gd : X.A.guards = some []) (ha : DXA X c G (e :: es) m) (hg : Gl X x := by rfl) (hs : NoStar X (e :: es) := by exact ⟨rfl, rfl, rfl, rfl, trivial⟩) (hdb : (x == ("__debug__" : Str)) = false := by decide) (hpl : (backTo pos (starEach es X.env)).any (·.1) = false := by rfl) :
    DX X c G (.Call (.Name x p) (e :: es) [] pos) (appX g m) := fun t d t' hd σ H Q E kq => by
  obtain ⟨⟨ds, t1⟩, e1, e2⟩ := Option.bind_eq_some_iff.mp hd
  obtain ⟨z, e3, e4⟩ := Option.map_eq_some_iff.mp e2
  cases e4
  exact sE_of (pe_callG F room gd hg (pa_s hs) hdb hs.1 hpl) (ha t ds _ e1 σ H _ E fun vs H1 E1 s1 r1 => ⟨ds, _, r1, e3, fun v H2 s2 r2 => kq v H2 (E1.same s2) (s1.trans (.of_same E1 s2)) r2⟩)
theorem dxf_call {T : Type} {G : T → Env_} {g : List D → Option (List D)} {m : T → Option (List D × T)} (F : CalG X.prog X.w X.K X.mg X.base k x (spF X.K g)) (room : Room k X.A) (gd : X.A.guards = some []) (ha : DXA X c G (e :: es) m) (hg : Gl X x := by rfl) (hs : NoStar X (e :: es) := by exact ⟨rfl, rfl, rfl, rfl, trivial⟩) (hdb : (x == ("__debug__" : Str)) = false := by decide) (hpl : (backTo pos (starEach es X.env)).any (·.1) = false := by rfl) :
    DXF X c G (.Call (.Name x p) (e :: es) [] pos) (appX g m) := fun t d t' hd σ H Q E kq => by
  obtain ⟨⟨ds, t1⟩, e1, e2⟩ := Option.bind_eq_some_iff.mp hd
  obtain ⟨z, e3, e4⟩ := Option.map_eq_some_iff.mp e2
  cases e4
  exact sE_of (pe_callG F room gd hg (pa_s hs) hdb hs.1 hpl) (ha t ds _ e1 σ H _ E fun vs H1 E1 s1 r1 => ⟨ds, _, r1, e3, fun a H2 xs hn s2 h2 r2 => kq a H2 xs (s1.free E hn) (E1.same s2) (s1.trans (.of_same E1 s2)) h2 r2⟩)
/-- the list that slot i holds was changed by a callee -/
theorem env_called {G : List D → Env_} {i : Nat} {ps qs : List D} {σ : St} {H H' : Hp} {a : Addr} {ys : List V} {K : Fr_} (E : EnvOk K c σ H (G ps)) (h : (G ps)[i]? = some (.own ps)) (hP : (G ps).set i (.own qs) = G qs) (ea : σ[i]? = some (some (.ref a))) (f1 : ∀ b o, H b = some o → b ≠ a → H' b = some o) (f2 : H' a = some (.lst ys)) (f3 : RpA K H' ys qs) :
    EnvOk K c σ H' (G qs) ∧ Step (G ps) (G qs) σ H H' := by
  have E2 := E.write h ea f1 f2 f3
  rw [hP] at E2
  have own_iff : ∀ b, Owns (G qs) σ b → Owns (G ps) σ b := fun b ⟨j, q, e1, e2, e3⟩ => by
    rw [← hP] at e1
    by_cases ej : i = j
    · subst ej
      exact ⟨i, _, h, rfl, e3⟩
    · rw [List.getElem?_set_ne ej] at e1
      exact ⟨j, q, e1, e2, e3⟩
  refine ⟨E2, ⟨fun b o hb hn => f1 b o hb fun z => hn ⟨i, _, h, rfl, z ▸ ea⟩, own_iff, fun b hb => ?_⟩⟩
  by_cases eb : b = a
  · rw [eb, f2]
    intro z
    cases z
  · obtain ⟨xs, q, _⟩ := E.owned hb
    rw [f1 b _ q eb]
    intro z
    cases z
variable {G : List D → Env_}
theorem dx_callM {g : List D → List D → Option (D × List D)} {ms : List D → Option (List D × List D)} (i : Nat) (F : CalG X.prog X.w X.K X.mg X.base k x (spM X.K g)) (room : Room k X.A) (gd : X.A.guards = some []) (ha : DXA X c G es ms) (hG : ∀ ps, (G ps)[i]? = some (.own ps) := by intro _; rfl) (hP : ∀ ps qs, (G ps).set i (.own qs) = G qs := by intros; rfl)
    (hN : X.N[i]? = some y := by rfl) (hv : Vis X.env.scope y := by first | exact Or.inl rfl | exact Or.inr (Or.inl rfl) | exact Or.inr (Or.inr rfl)) (hg : Gl X x := by rfl) (hs : NoStar X (.Name y py :: es) := by exact ⟨rfl, rfl, rfl, rfl, trivial⟩) (hdb : (x == ("__debug__" : Str)) = false := by decide) (hpl : (backTo pos (starEach es X.env)).any (·.1) = false := by rfl)
    (hd : (y == ("__debug__" : Str)) = false := by decide) (hcd : (y == ("__classdict__" : Str)) = false := by decide) : DX X c G (.Call (.Name x p) (.Name y py :: es) [] pos) (fun ps => (ms ps).bind fun q => g q.2 q.1) := fun t d t' hd' σ H Q E kq => by
  obtain ⟨⟨ds, t1⟩, e1, e2⟩ := Option.bind_eq_some_iff.mp hd'
  refine sE_of (pe_callG F room gd hg (pa_cons (pe_var hN hv hd hcd) (pa_s hs.2) hs.1) hdb hs.1 hpl) ?_
  obtain ⟨a, xs, ea, _, _⟩ := E.ownAt (hG t)
  refine ⟨_, ea, ha t ds t1 e1 σ H _ E fun vs H1 E1 s1 r1 => ?_⟩
  obtain ⟨a', ys, ea', hl, ry⟩ := E1.ownAt (hG t1)
  rw [ea] at ea'
  cases ea'
  refine ⟨a, vs, ys, t1, ds, d, t', rfl, hl, ry, r1, e2, fun v H2 zs f1 f2 f3 f4 => ?_⟩
  obtain ⟨E2, s2⟩ := env_called E1 (hG t1) (hP t1 t') ea f1 f2 f3
  exact kq v H2 E2 (s1.trans s2) f4
theorem dxf_callM {g : List D → List D → Option (List D × List D)} {ms : List D → Option (List D × List D)} (i : Nat) (F : CalG X.prog X.w X.K X.mg X.base k x (spMF X.K g)) (room : Room k X.A) (gd : X.A.guards = some []) (ha : DXA X c G es ms) (hG : ∀ ps, (G ps)[i]? = some (.own ps) := by intro _; rfl) (hP : ∀ ps qs, (G ps).set i (.own qs) = G qs := by intros; rfl)
    (hN : X.N[i]? = some y := by rfl) (hv : Vis X.env.scope y := by first | exact Or.inl rfl | exact Or.inr (Or.inl rfl) | exact Or.inr (Or.inr rfl)) (hg : Gl X x := by rfl) (hs : NoStar X (.Name y py :: es) := by exact ⟨rfl, rfl, rfl, rfl, trivial⟩) (hdb : (x == ("__debug__" : Str)) = false := by decide) (hpl : (backTo pos (starEach es X.env)).any (·.1) = false := by rfl)
    (hd : (y == ("__debug__" : Str)) = false := by decide) (hcd : (y == ("__classdict__" : Str)) = false := by decide) : DXF X c G (.Call (.Name x p) (.Name y py :: es) [] pos) (fun ps => (ms ps).bind fun q => g q.2 q.1) := fun t d t' hd' σ H Q E kq => by
  obtain ⟨⟨ds, t1⟩, e1, e2⟩ := Option.bind_eq_some_iff.mp hd'
  refine sE_of (pe_callG F room gd hg (pa_cons (pe_var hN hv hd hcd) (pa_s hs.2) hs.1) hdb hs.1 hpl) ?_
  obtain ⟨a, xs, ea, _, _⟩ := E.ownAt (hG t)
  refine ⟨_, ea, ha t ds t1 e1 σ H _ E fun vs H1 E1 s1 r1 => ?_⟩
  obtain ⟨a', ys, ea', hl, ry⟩ := E1.ownAt (hG t1)
  rw [ea] at ea'
  cases ea'
  refine ⟨a, vs, ys, t1, ds, d, t', rfl, hl, ry, r1, e2, fun b H2 us zs hb f1 f2 f3 f4 f5 => ?_⟩
  obtain ⟨E2, s2⟩ := env_called E1 (hG t1) (hP t1 t') ea f1 f2 f3
  exact kq b H2 zs (s1.free E hb) E2 (s1.trans s2) f4 f5
end
/-! ### isinstance, repr, list(range(..)), sorted -/
def tyN : D → String
  | .none => "NoneType"
  | .bool _ => "bool"
  | .int _ => "int"
  | .str _ => "str"
  | .list _ => "list"
  | .tuple _ => "tuple"
  | .dict _ => "dict"
def dIsi (T : String) (d : D) : Option D := match T with
  | "int" => some (.bool (match d with | .int _ => true | .bool _ => true | _ => false))
  | "bool" => some (.bool (match d with | .bool _ => true | _ => false))
  | "str" => some (.bool (match d with | .str _ => true | _ => false))
  | "tuple" => some (.bool (match d with | .tuple _ => true | _ => false))
  | "list" => some (.bool (match d with | .list _ => true | _ => false))
  | _ => none
theorem dIsi_kit {T : String} {d z : D} (h : dIsi T d = some z) : ∃ b, z = .bool b ∧ kitB (tyN d) T = some b := by
  unfold dIsi at h
  split at h
  · refine ⟨_, (Option.some.inj h).symm, ?_⟩
    cases d <;> (dsimp only [tyN]; decide +kernel)
  · refine ⟨_, (Option.some.inj h).symm, ?_⟩
    cases d <;> (dsimp only [tyN]; decide +kernel)
  · refine ⟨_, (Option.some.inj h).symm, ?_⟩
    cases d <;> (dsimp only [tyN]; decide +kernel)
  · refine ⟨_, (Option.some.inj h).symm, ?_⟩
    cases d <;> (dsimp only [tyN]; decide +kernel)
  · refine ⟨_, (Option.some.inj h).symm, ?_⟩
    cases d <;> (dsimp only [tyN]; decide +kernel)
  · cases h
theorem tyX_of {K : Fr_} {H : Hp} {v : V} {d : D} (r : RpW K H v d) : TyX K H v (.type (tyN d)) := by
  have seqL : ∀ {a : Addr} {xs : List V}, SqL K H a xs → TyX K H (.ref a) (.type "list") := fun {a xs} h => by
    rcases h with (h | ⟨o, h⟩) | ⟨o, its, n, h1, h2, _⟩
    · exact .base (.lst h)
    · exact .base (.frz h)
    · exact .kList h1 h2
  have seqT : ∀ {a : Addr} {xs : List V}, SqT K H a xs → TyX K H (.ref a) (.type "tuple") := fun {a xs} h => by
    rcases h with (h | ⟨o, h⟩) | ⟨o, its, n, h1, h2, _⟩
    · exact .base (.tup h)
    · exact .fTuple h
    · exact .kTuple h1 h2
  cases r with
  | st r =>
    cases r with
    | non => exact .base .non
    | bl b => exact .base (.bl b)
    | int i => exact .base (.int i)
    | str x => exact .base (.str x)
    | lst h _ => exact seqL h.sq
    | tup h _ => exact seqT h.sq
    | dct h _ _ => exact let ⟨_, h⟩ := h; .fDict h
  | ow h _ => exact .base (.lst h)
  | od h _ => exact .base (.dK h)
section
variable {X : Cx} {c : FC} {Γ : Env_}
theorem de_isi {T : String} {x : Str} {e : Expr} {m : Option D} {p px pos : Pos} (hm : X.mg "isinstance" = none) (hm2 : X.mg x = none) (he : DW X c Γ e m) (hv : bootBuiltins x = some (.type T) := by decide +kernel) (hg : Gl X "isinstance" := by rfl) (hg2 : Gl X x := by rfl) (hn : x ≠ "__name__" := by decide) (hdb : (x == ("__debug__" : Str)) = false := by decide)
    (hs : NoStar X [e, .Name x px] := by exact ⟨rfl, rfl, trivial⟩) (hpl : (backTo pos (starEach [Expr.Name x px] X.env)).any (·.1) = false := by rfl) : DE X c Γ (.Call (.Name "isinstance" p) [e, .Name x px] [] pos) (m.bind (dIsi T)) := fun d hd σ H Q E k => by
  obtain ⟨a, e1, e2⟩ := Option.bind_eq_some_iff.mp hd
  obtain ⟨b, rfl, hk⟩ := dIsi_kit e2
  refine sE_of (pe_callB call_isi hg hm boot_isinstance (pa_cons (pe_s e) (pa_cons (pe_bltn (v := V.ty T) hg2 hm2 hv rfl hn hdb) pa_nil hs.2.1) hs.1) (by decide) (by decide) hs.1 hpl) ?_
  exact he a e1 σ H _ E fun v H1 s1 r1 => ⟨v, .ty T, _, _, b, rfl, .ty T, tyX_of r1, kit_ty hk, k _ H1 s1 (.bl b)⟩
theorem dx_isi {S : Type} {G : S → Env_} {T : String} {x : Str} {e : Expr} {m : S → Option (D × S)} {p px pos : Pos} (hm : X.mg "isinstance" = none) (hm2 : X.mg x = none) (he : DX X c G e m) (hv : bootBuiltins x = some (.type T) := by decide +kernel) (hg : Gl X "isinstance" := by rfl) (hg2 : Gl X x := by rfl) (hn : x ≠ "__name__" := by decide) (hdb : (x == ("__debug__" : Str)) = false := by decide)
    (hs : NoStar X [e, .Name x px] := by exact ⟨rfl, rfl, trivial⟩) (hpl : (backTo pos (starEach [Expr.Name x px] X.env)).any (·.1) = false := by rfl) : DX X c G (.Call (.Name "isinstance" p) [e, .Name x px] [] pos) (bindX m (dIsi T)) := fun t d t' hd σ H Q E k => by
  obtain ⟨a, e1, e2⟩ := bindX_eq hd
  obtain ⟨b, rfl, hk⟩ := dIsi_kit e2
  refine sE_of (pe_callB call_isi hg hm boot_isinstance (pa_cons (pe_s e) (pa_cons (pe_bltn (v := V.ty T) hg2 hm2 hv rfl hn hdb) pa_nil hs.2.1) hs.1) (by decide) (by decide) hs.1 hpl) ?_
  exact he t a t' e1 σ H _ E fun v H1 E1 s1 r1 => ⟨v, .ty T, _, _, b, rfl, .ty T, tyX_of (.st r1), kit_ty hk, k _ H1 E1 s1 (.bl b)⟩
theorem cd_repr (gd : X.A.guards = some []) (hu : X.A.units + 100 < cLine) : CallD X (.builtin "repr") dRepr := by
  intro pins s σ H vs us Q I rs ⟨ds, z, h, e, k⟩
  unfold dRepr at e
  split at e
  · rename_i d
    split at e
    · rename_i hb
      cases e
      obtain ⟨b1, b2⟩ := Bool.and_eq_true_iff.mp hb
      obtain ⟨b3, b4⟩ := Bool.and_eq_true_iff.mp b2
      obtain ⟨b5, b6⟩ := Bool.and_eq_true_iff.mp b4
      have hlen : d.shown.length ≤ 1000000 := of_decide_eq_true b3
      have hnd : d.hasDict = false := by simpa using b5
      have hdp : d.depth ≤ 64 := of_decide_eq_true b6
      have hsz : d.shown.length ≤ sizeLine := Nat.le_trans hlen (by decide)
      obtain ⟨v, rfl, h1⟩ := h.one
      obtain ⟨u, rfl, ru⟩ := vals1 rs
      obtain ⟨as, rr⟩ := Dp.reads I d v u (h1.dp hnd) ru
      have fin : ∀ (a : Addr), u = .ref a → wpAny (model X.prog X.w) X.A (call (.builtin "repr") [u]) (EP X pins σ Q) X.xe s := fun a ea => by
        subst ea
        exact repr_of_reads' rr b1 (PyData.noDict_hsm hnd) gd (by omega) (fun _ _ e => e) (fun h' u' tk hk => ⟨.str d.shown, H, I.kept (t' := tk) hk, ⟨u', rfl⟩, k _ H (Same.refl H) (.str _)⟩) hsz
      cases h1 with
      | st h1 =>
        cases h1 with
        | lst _ _ => exact fin _ ru
        | tup _ _ => exact fin _ ru
        | dct _ _ _ => exact fin _ ru
        | non =>
          cases (show u = Value.none from ru)
          exact PySem.P.repr_of_none ⟨.str _, H, I.tok _, ⟨_, rfl⟩, k _ H (Same.refl H) (.str _)⟩
        | bl b =>
          cases (show u = Value.bool b from ru)
          refine PySem.P.repr_of_bool ⟨.str _, H, I.tok _, ⟨_, rfl⟩, ?_⟩
          cases b
          · exact k _ H (Same.refl H) (.str _)
          · exact k _ H (Same.refl H) (.str _)
        | int i =>
          obtain ⟨t, q⟩ := (show ∃ t, u = Value.int i t from ru)
          cases q
          have hi : i.natAbs.log2 < 1920 := by
            have b1' : (PyData.int i).showable = true := b1
            simpa [PyData.showable] using b1'
          exact PySem.P.repr_of_int hi ⟨.str _, H, I.tok _, ⟨_, rfl⟩, k _ H (Same.refl H) (.str _)⟩
        | str y =>
          obtain ⟨t, q⟩ := (show ∃ t, u = Value.str y t from ru)
          cases q
          exact PySem.P.repr_of_str ⟨.str _, H, I.tok _, ⟨_, rfl⟩, k _ H (Same.refl H) (.str _)⟩ hsz
      | ow _ _ => exact fin _ ru
      | od _ _ => exact fin _ ru
    · cases e
  · cases e
theorem rpa_each {pins : List (Addr × Obj)} {σ : St} {H : Hp} {s : Shared} (I : Inv X pins σ H s) : ∀ {xs : List V} {its : List Value} {es : List D}, RpA X.K H xs es → (∀ d ∈ es, d.hasDict = false) → Vals xs its → PySem.W.EachIs (fun u d => (∃ w, RelV w u ∧ Rp X.K H w d) ∧ ∃ as, Reads s.heap u d as) its es
  | _, _, _, .nil, _, .nil => .nil
  | _, _, _, .cons h r, n, .cons a b => .cons ⟨⟨_, a, h⟩, Dp.reads I _ _ _ (h.dp (n _ List.mem_cons_self)) a⟩ (rpa_each I r (fun x hx => n x (List.mem_cons_of_mem _ hx)) b)
/-- the items of a list, a tuple, and how they are taken -/
theorem seq_items {X : Cx} {pins : List (Addr × Obj)} {σ : St} {H : Hp} {s : Shared} (I : Inv X pins σ H s) {v : V} {d : D} {ds : List D} (h1 : RpW X.K H v d) (e : seqD d = some ds) : ∃ (p : Addr) (xs : List V) (its : List Value), v = .ref p ∧ RpA X.K H xs ds ∧ Vals xs its ∧ xs.length ≤ sizeLine ∧ ∀ A : Around, Collects X.prog X.w A s (.ref p) its := by
  have go : ∀ (t : Bool) (p : Addr) (xs : List V), SqB X.K H t p xs → ∃ its : List Value, Vals xs its ∧ xs.length ≤ sizeLine ∧ ∀ A : Around, Collects X.prog X.w A s (.ref p) its := fun t p xs hq => by
    obtain ⟨its, rv, sq, hz, _⟩ := inv_seqB I hq
    have hl : its.toArray.size ≤ sizeLine := by rw [List.size_toArray, ← rv.length]; exact hz
    refine ⟨its, rv, hz, fun A => ?_⟩
    cases t with
    | true =>
      obtain ⟨o, h1, h2, n, h3⟩ := sq
      exact collects_seq (.inr rfl) h1 h2 h3 hl
    | false =>
      obtain ⟨o, h1, h2, n, h3⟩ := sq
      exact collects_seq (.inl rfl) h1 h2 h3 hl
  unfold seqD at e
  split at e
  · cases e
    obtain ⟨p, xs, rfl, hp, r⟩ := h1.list
    obtain ⟨its, a, b, c⟩ := go false p xs hp
    exact ⟨p, xs, its, rfl, r, a, b, c⟩
  · cases e
    obtain ⟨p, xs, rfl, hp, r⟩ := h1.tuple
    obtain ⟨its, a, b, c⟩ := go true p xs hp
    exact ⟨p, xs, its, rfl, r, a, b, c⟩
  · cases e
theorem each_back {K : Fr_} {H : Hp} {out : List Value} {es : List D} (q : PySem.W.EachIs (fun u d => ∃ w, RelV w u ∧ Rp K H w d) out es) : ∃ ws : List V, Vals ws out ∧ RpA K H ws es := by
  induction q with
  | nil => exact ⟨[], .nil, .nil⟩
  | cons h _ ih =>
    obtain ⟨w, h1, h2⟩ := h
    obtain ⟨ws, h3, h4⟩ := ih
    exact ⟨w :: ws, .cons h1 h3, .cons h2 h4⟩
theorem sortOk2_iff {ds : List D} (h : sortOk2 ds = true) : ds.length ≤ 100000 ∧ AllCmp ds ∧ ∀ d ∈ ds, d.depth ≤ 64 := by
  obtain ⟨h1, h2⟩ := Bool.and_eq_true_iff.mp h
  have z := fun d hd => List.all_eq_true.mp h2 d hd
  refine ⟨of_decide_eq_true h1, fun d hd => ?_, fun d hd => ?_⟩
  · obtain ⟨a, b⟩ := Bool.and_eq_true_iff.mp (z d hd)
    obtain ⟨b1, b2⟩ := Bool.and_eq_true_iff.mp b
    obtain ⟨b3, b4⟩ := Bool.and_eq_true_iff.mp b2
    refine ⟨?_, by simpa using b1, fun d' hd' => List.all_eq_true.mp b4 d' hd'⟩
    split at a
    · exact ⟨_, _, rfl⟩
    · cases a
  · obtain ⟨a, b⟩ := Bool.and_eq_true_iff.mp (z d hd)
    obtain ⟨b1, b2⟩ := Bool.and_eq_true_iff.mp b
    exact of_decide_eq_true (Bool.and_eq_true_iff.mp b2).1
theorem cf_sorted (hu : X.A.units + 100 < cLine) : CallF X (.builtin "sorted") dSorted := by
  intro pins s σ H vs us Q I rs ⟨ds, z, h, e, k⟩
  unfold dSorted at e
  split at e
  · rename_i d0
    obtain ⟨ds', es, e⟩ := Option.bind_eq_some_iff.mp e
    split at e
    · rename_i hb
      cases e
      obtain ⟨v, rfl, h1⟩ := h.one
      obtain ⟨p, xs, its, rfl, r, rv, hz, hcol⟩ := seq_items I h1 es
      obtain ⟨u, rfl, ru⟩ := vals1 rs
      cases ru
      -- what is known of the items, either way
      have all : ds'.length ≤ 100000 ∧ (∀ x ∈ ds', x.hasDict = false ∧ x.depth ≤ 64) ∧ ∀ (A' : Around) (s' : Shared) (vs' : List Value), A'.units = X.A.units + 2 → PySem.W.EachIs (fun v d => ∃ as, Reads s'.heap v d as) vs' ds' → PySem.W.SortsAt X.prog X.w A' s' (PySem.W.dataKind s'.heap ds') vs' ∧ PySem.W.EachIs (fun v d => (PySem.W.dataKind s'.heap ds').keyOf v = some (PySem.W.keyToks d)) vs' ds' := by
        rcases Bool.or_eq_true_iff.mp hb with hb | hb
        · obtain ⟨b1, b2⟩ := Bool.and_eq_true_iff.mp hb
          obtain ⟨b3, b4⟩ := Bool.and_eq_true_iff.mp b2
          obtain ⟨a1, a2⟩ := allAlike_iff b3
          have srt : PySem.W.Sortable ds' := by
            rcases Bool.or_eq_true_iff.mp b4 with q | q
            · refine .inl fun d hd => ?_
              have z := List.all_eq_true.mp q d hd
              split at z
              · exact ⟨_, _, rfl⟩
              · cases z
            · refine .inr fun d hd => ⟨(a1 d hd).1, fun xs ex => ?_⟩
              have z := List.all_eq_true.mp q d hd
              rw [ex] at z
              cases z
          refine ⟨of_decide_eq_true b1, fun x hx => ⟨(a1 x hx).2.2, (a1 x hx).2.1⟩, fun A' s' vs' hA ev => ⟨PySem.W.SortsAt.data ev a2 srt fun d hd => ?_, PySem.W.each_keys a2 ev⟩⟩
          have := (a1 d hd).2.1
          omega
        · obtain ⟨c1, c2, c3⟩ := sortOk2_iff hb
          refine ⟨c1, fun x hx => ⟨(c2 x hx).2.1, c3 x hx⟩, fun A' s' vs' hA ev => ⟨sorts_cmp ev c2 fun d hd => ?_, keys_cmp (fun d hd => (c2 d hd).2.1) (fun d hd => hd) ev⟩⟩
          have := c3 d hd
          omega
      obtain ⟨hlen, hdd, hS⟩ := all
      have ea := rpa_each I r (fun x hx => (hdd x hx).1) rv
      have hlv : its.length = ds'.length := ea.length
      have ereads : ∀ h' : Heap, (∀ b o, s.heap.get? b = some o → h'.get? b = some o) → PySem.W.EachIs (fun v d => ∃ as, Reads h' v d as) its ds' := fun h' kp => ea.mono fun _ _ ⟨_, as, q⟩ => ⟨as, PyProof.Rows.Reads.keeps kp q⟩
      have kp2 : ∀ h' : Heap, (∀ b o, s.heap.get? b = some o → h'.get? b = some o) → ∀ b o, s.heap.get? b = some o → (PySem.W.sortingHeap (h'.push (seqObj "list" its.toArray 0)) h'.objs.size its).get? b = some o := fun h' kp b o q => sortingOver_old (kp b o q)
      have hin : X.A.in1.in1.units = X.A.units + 2 := by first | rfl | (simp [Around.in1]; omega)
      refine sorted_gen (κ := fun h' => PySem.W.dataKind (PySem.W.sortingHeap (h'.push (seqObj "list" its.toArray 0)) h'.objs.size its) ds') (hcol _) (by rw [hlv]; exact Nat.le_trans hlen (by decide)) (fun h' tk kp => (hS _ _ _ hin (ereads _ (kp2 h' kp))).1) fun h' tk kp => ?_
      have eo : PySem.W.EachIs (fun u d => ∃ w, RelV w u ∧ Rp X.K H w d) (PySem.W.sortVals (PySem.W.dataKind (PySem.W.sortingHeap (h'.push (seqObj "list" its.toArray 0)) h'.objs.size its) ds') false its its) (ds'.mergeSort (PySem.W.dataLe false fun d => d)) :=
        PySem.W.sortVals_each (κ := PySem.W.dataKind _ ds') (fun b => PySem.W.keyToks b) (ea.mono fun _ _ q => q.1) (hS X.A.in1.in1 { s with heap := PySem.W.sortingHeap (h'.push (seqObj "list" its.toArray 0)) h'.objs.size its } its hin (ereads _ (kp2 h' kp))).2
      obtain ⟨ws, w1, w2⟩ := each_back eo
      obtain ⟨ep, he'⟩ := sortedOver_at h' its (PySem.W.sortVals (PySem.W.dataKind (PySem.W.sortingHeap (h'.push (seqObj "list" its.toArray 0)) h'.objs.size its) ds') false its its).toArray
      have I0 : Inv X pins σ H { s with heap := h', toks := tk } := I.kept (t' := tk) kp
      have hn : H h'.objs.size = none := I0.hok.fresh (Nat.le_refl _)
      have ho : (PySem.W.sortVals (PySem.W.dataKind (PySem.W.sortingHeap (h'.push (seqObj "list" its.toArray 0)) h'.objs.size its) ds') false its its).length = ds'.length := by rw [PySem.W.sortVals_length false rfl]; exact hlv
      have I1 : Inv X pins σ (upd H h'.objs.size (.lst ws)) { s with heap := sortedOver h' its (PySem.W.sortVals (PySem.W.dataKind (PySem.W.sortingHeap (h'.push (seqObj "list" its.toArray 0)) h'.objs.size its) ds') false its its).toArray, toks := tk } := I0.laid (t' := tk) (fun b o q => sortedOver_old q) (Nat.le_refl _) ⟨by rw [w1.length, ho]; exact Nat.le_trans hlen (by decide), _, ep, w1, he'⟩
      exact ⟨.ref _, _, I1, rfl, k _ _ ws hn (Same.new hn) upd_same (w2.mono (.of_same (Same.new hn)))⟩
    · cases e
  · cases e
/-- list(range(n)) -/
noncomputable def dLR1 : D → Option (List D)
  | .int b => if rOk b && cl (b ≤ 100000) then some (rangeL 0 b) else none
  | _ => none
noncomputable def dLR2 : D → D → Option (List D)
  | .int a, .int b => if rOk a && (rOk b && cl (b - a ≤ 100000)) then some (rangeL a b) else none
  | _, _ => none
theorem rgV_rp {K : Fr_} {H : Hp} (a b : Int) : RpA K H (rgV a b) (rangeL a b) := by
  unfold rgV rangeL
  generalize (List.range (b - a).toNat) = l
  induction l with
  | nil => exact .nil
  | cons n r ih => exact .cons (.int _) ih
theorem df_lr1 {e : Expr} {m : Option D} {p p2 pos pos2 : Pos} (hc : X.calm = true) (hl : X.mg "list" = none) (hm : X.mg "range" = none) (he : DE X c Γ e m) (hgl : Gl X "list" := by rfl) (hg : Gl X "range" := by rfl) (na : starEach [e] X.env = (false, eval e X.env) :: starEach [] X.env := by rfl)
    (nb : starEach [Expr.Call (.Name "range" p2) [e] [] pos2] X.env = (false, eval (.Call (.Name "range" p2) [e] [] pos2) X.env) :: starEach [] X.env := by rfl) : DF X c Γ (.Call (.Name "list" p) [.Call (.Name "range" p2) [e] [] pos2] [] pos) (m.bind dLR1) := fun ds hd σ H Q E k => by
  obtain ⟨d, e1, e2⟩ := Option.bind_eq_some_iff.mp hd
  unfold dLR1 at e2
  split at e2
  · split at e2
    · rename_i hb
      cases e2
      obtain ⟨h1, h2⟩ := Bool.and_eq_true_iff.mp hb
      obtain ⟨h3, h4⟩ := rOk_iff h1
      have h5 := cl_iff.mp h2
      refine sE_of (pe_listRg hc hgl hl (prg_1 hg hm (pe_s e) na) nb) (he _ e1 σ H _ E fun v H1 s1 r1 => ⟨_, RpW.int (.st r1), ⟨by omega, by omega, h3, h4, by omega⟩, fun q hq => ?_⟩)
      exact k q _ _ (s1.free hq) (s1.trans (Same.new hq)) upd_same (rgV_rp _ _)
    · cases e2
  · cases e2
theorem df_lr2 {e e' : Expr} {m m' : Option D} {p p2 pos pos2 : Pos} (hc : X.calm = true) (hl : X.mg "list" = none) (hm : X.mg "range" = none) (he : DE X c Γ e m) (he' : DE X c Γ e' m') (hgl : Gl X "list" := by rfl) (hg : Gl X "range" := by rfl) (na : starEach [e, e'] X.env = (false, eval e X.env) :: starEach [e'] X.env := by rfl) (na' : starEach [e'] X.env = (false, eval e' X.env) :: starEach [] X.env := by rfl) (hpl : (backTo pos2 (starEach [e'] X.env)).any (·.1) = false := by rfl)
    (nb : starEach [Expr.Call (.Name "range" p2) [e, e'] [] pos2] X.env = (false, eval (.Call (.Name "range" p2) [e, e'] [] pos2) X.env) :: starEach [] X.env := by rfl) : DF X c Γ (.Call (.Name "list" p) [.Call (.Name "range" p2) [e, e'] [] pos2] [] pos) (m.bind fun a => m'.bind fun b => dLR2 a b) := fun ds hd σ H Q E k => by
  obtain ⟨d, e1, e2⟩ := Option.bind_eq_some_iff.mp hd
  obtain ⟨d', e3, e4⟩ := Option.bind_eq_some_iff.mp e2
  unfold dLR2 at e4
  split at e4
  · split at e4
    · rename_i hb
      cases e4
      obtain ⟨h1, h2⟩ := Bool.and_eq_true_iff.mp hb
      obtain ⟨h6, h7⟩ := Bool.and_eq_true_iff.mp h2
      obtain ⟨h3, h4⟩ := rOk_iff h1
      obtain ⟨h8, h9⟩ := rOk_iff h6
      have h5 := cl_iff.mp h7
      refine sE_of (pe_listRg hc hgl hl (prg_2 hg hm (pe_s e) (pe_s e') na na' hpl) nb) (he _ e1 σ H _ E fun v H1 s1 r1 => he' _ e3 σ H1 _ (E.same s1) fun v2 H2 s2 r2 => ⟨_, _, RpW.int (.st r1), RpW.int (.st r2), ⟨h3, h4, h8, h9, by omega⟩, fun q hq => ?_⟩)
      exact k q _ _ ((s1.trans s2).free hq) ((s1.trans s2).trans (Same.new hq)) upd_same (rgV_rp _ _)
    · cases e4
  · cases e4
end
end DL

set_option Elab.async false
set_option linter.all false
set_option maxRecDepth 100000
set_option maxHeartbeats 2000000
set_option autoImplicit false
namespace DL
open PySem PySem.Spec PyProof.Rows L2
def castFl {N B R : Type} : Fl Empty B R → Fl N B R
  | .nx e => nomatch e
  | .bk b => .bk b
  | .ct b => .ct b
  | .rt r => .rt r

section
variable {X : Cx} {c : FC} {N B R : Type} {GN : N → Env_} {GB : B → Env_} {RK : R → V → Hp → Prop} {Γ : Env_} {rest : List Stmt}
theorem cast_fin {H : Hp} {D : Ends} {o1 : Fl Empty B R} {t : TS} (f : Fin_ X.K c GN GB RK H (castFl o1) D) (n : St → Hp → Prop) : Fin_ X.K c GE GB RK H o1 { D with nx := n } := by
  cases o1 with
  | nx n => cases n
  | bk b => exact ⟨(fun n => nomatch n), (fun b' e => by cases e; exact f.bk b rfl), (fun b e => nomatch e), (fun b e => nomatch e)⟩
  | ct b => exact ⟨(fun n => nomatch n), (fun b e => nomatch e), (fun b' e => by cases e; exact f.ct b rfl), (fun b e => nomatch e)⟩
  | rt r => exact ⟨(fun n => nomatch n), (fun b e => nomatch e), (fun b e => nomatch e), (fun b' e => by cases e; exact f.rt r rfl)⟩
theorem db_cast {sts : List Stmt} {m : Option (Fl Empty B R)} (h : DB X c GE GB RK Γ sts m) : DB X c GN GB RK Γ sts (m.map castFl) := fun o e σ H D E f => by
  obtain ⟨o1, e1, rfl⟩ := Option.map_eq_some_iff.mp e
  exact h o1 e1 σ H D E (cast_fin (t := fun _ _ _ => True) f D.nx)
/-- the first branch does not go on -/
theorem db_ifr {t : Expr} {a : List Stmt} {mt : Option Bool} {ma : Option (Fl Empty B R)} {mr : Option (Fl N B R)} {pos : Pos} (ht : DT X c Γ t mt) (ha : DB X c GE GB RK Γ a ma) (hr : DB X c GN GB RK Γ rest mr) :
    DB X c GN GB RK Γ (.If t a [] pos :: rest) (iteO mt (ma.map castFl) mr) := fun o h σ H D E f => by
  obtain ⟨x, e3, e4⟩ := Option.bind_eq_some_iff.mp h
  refine sSs_cons (ps_if (pt_s t) (pss_s a) pss_nil) (ht x e3 σ H _ E fun H1 s1 => ?_)
  cases x with
  | true =>
    obtain ⟨o1, e5, rfl⟩ := Option.map_eq_some_iff.mp e4
    exact iteT (ha o1 e5 σ H1 _ (E.same s1) (cast_fin (t := fun _ _ _ => True) (f.mono (.of_same s1)) _))
  | false => exact iteF (hr o e4 σ H1 D (E.same s1) (f.mono (.of_same s1)))
/-- neither branch goes on -/
theorem db_ife {t : Expr} {a b : List Stmt} {mt : Option Bool} {ma mb : Option (Fl Empty B R)} {pos : Pos} (ht : DT X c Γ t mt) (ha : DB X c GE GB RK Γ a ma) (hb : DB X c GE GB RK Γ b mb) :
    DB X c GN GB RK Γ (.If t a b pos :: rest) ((iteO mt ma mb).map castFl) := fun o h σ H D E f => by
  obtain ⟨o1, e1, rfl⟩ := Option.map_eq_some_iff.mp h
  obtain ⟨x, e3, e4⟩ := Option.bind_eq_some_iff.mp e1
  refine sSs_cons (ps_if (pt_s t) (pss_s a) (pss_s b)) (ht x e3 σ H _ E fun H1 s1 => ?_)
  have f' := cast_fin (t := fun _ _ _ => True) (f.mono (.of_same s1)) (sSs X rest D)
  cases x with
  | true => exact iteT (ha o1 e4 σ H1 _ (E.same s1) f')
  | false => exact iteF (hb o1 e4 σ H1 _ (E.same s1) f')
variable {T : Type} {G : T → Env_}
theorem dbx_ifr {te : Expr} {a : List Stmt} {mt : T → Option (Bool × T)} {ma : Bool × T → Option (Fl Empty B R)} {mr : Bool × T → Option (Fl N B R)} {pos : Pos} {t : T} (ht : DXT X c G te mt) (ha : ∀ q : Bool × T, DB X c GE GB RK (G q.2) a (ma q)) (hr : ∀ q : Bool × T, DB X c GN GB RK (G q.2) rest (mr q)) :
    DB X c GN GB RK (G t) (.If te a [] pos :: rest) ((mt t).bind fun q => if q.1 then (ma q).map castFl else mr q) := fun o h σ H D E f => by
  obtain ⟨⟨x, t'⟩, e3, e4⟩ := Option.bind_eq_some_iff.mp h
  refine sSs_cons (ps_if (pt_s te) (pss_s a) pss_nil) (ht t x t' e3 σ H _ E fun H1 E1 s1 => ?_)
  cases x with
  | true =>
    obtain ⟨o1, e5, rfl⟩ := Option.map_eq_some_iff.mp e4
    exact iteT (ha (true, t') o1 e5 σ H1 _ E1 (cast_fin (t := fun _ _ _ => True) (f.mono (s1.mono E)) _))
  | false => exact iteF (hr (false, t') o e4 σ H1 D E1 (f.mono (s1.mono E)))
theorem dbx_ife {te : Expr} {a b : List Stmt} {mt : T → Option (Bool × T)} {ma mb : Bool × T → Option (Fl Empty B R)} {pos : Pos} {t : T} (ht : DXT X c G te mt) (ha : ∀ q : Bool × T, DB X c GE GB RK (G q.2) a (ma q)) (hb : ∀ q : Bool × T, DB X c GE GB RK (G q.2) b (mb q)) :
    DB X c GN GB RK (G t) (.If te a b pos :: rest) ((mt t).bind fun q => (if q.1 then ma q else mb q).map castFl) := fun o h σ H D E f => by
  obtain ⟨⟨x, t'⟩, e3, e4⟩ := Option.bind_eq_some_iff.mp h
  obtain ⟨o1, e5, rfl⟩ := Option.map_eq_some_iff.mp e4
  refine sSs_cons (ps_if (pt_s te) (pss_s a) (pss_s b)) (ht t x t' e3 σ H _ E fun H1 E1 s1 => ?_)
  have f' := cast_fin (t := fun _ _ _ => True) (f.mono (s1.mono E)) (sSs X rest D)
  cases x with
  | true => exact iteT (ha (true, t') o1 e5 σ H1 _ E1 f')
  | false => exact iteF (hb (false, t') o1 e5 σ H1 _ E1 f')
end
theorem u64 {k : Nat} {A : Around} (r : Room k A) : A.units + 64 < cLine := by have := r.un; omega
theorem u65 {k : Nat} {A : Around} (r : Room k A) : A.units + 65 < cLine := by have := r.un; omega
theorem u100 {k : Nat} {A : Around} (r : Room k A) : A.units + 100 < cLine := by have := r.un; omega
/-! slices -/
def dSlL (lo hi : Option Int) : D → Option (List D)
  | .list ds => some (cutD ds lo hi)
  | _ => none
def dSl (lo hi : Option Int) : D → Option D
  | .tuple ds => some (.tuple (cutD ds lo hi))
  | .list ds => some (.list (cutD ds lo hi))
  | _ => none
def slF (m : Option D) (lo hi : Option (Option Int)) : Option (List D) := m.bind fun x => lo.bind fun l => hi.bind fun h => dSlL l h x
section
variable {X : Cx} {c : FC} {Γ : Env_}
theorem df_sl {a : Expr} {lo hi : Option Expr} {ma : Option D} {ml mh : Option (Option Int)} {pos p2 : Pos} (ha : DW X c Γ a ma) (hl : DP X c Γ lo ml) (hh : DP X c Γ hi mh) : DF X c Γ (.Subscript a (.Slice lo hi none p2) pos) (slF ma ml mh) := fun d hd σ H Q E k => by
  refine df_slL ha hl hh d ?_ σ H Q E k
  obtain ⟨x, e1, e2⟩ := Option.bind_eq_some_iff.mp hd
  obtain ⟨l, e3, e4⟩ := Option.bind_eq_some_iff.mp e2
  obtain ⟨h, e5, e6⟩ := Option.bind_eq_some_iff.mp e4
  rw [e1, e3, e5]
  cases x <;> first | exact e6 | cases e6
theorem de_sl {a : Expr} {lo hi : Option Expr} {ma : Option D} {ml mh : Option (Option Int)} {pos p2 : Pos} (ha : DE X c Γ a ma) (hl : DP X c Γ lo ml) (hh : DP X c Γ hi mh) : DE X c Γ (.Subscript a (.Slice lo hi none p2) pos) (slO dSl ma ml mh) := fun d hd σ H Q E k => by
  obtain ⟨x, e1, e2⟩ := Option.bind_eq_some_iff.mp hd
  obtain ⟨l, e3, e4⟩ := Option.bind_eq_some_iff.mp e2
  obtain ⟨h, e5, e6⟩ := Option.bind_eq_some_iff.mp e4
  cases x with
  | tuple ds => exact de_slT ha hl hh d (by unfold slO; rw [e1, e3, e5]; exact e6) σ H Q E k
  | list ds => exact DF.e (df_sl ha.w hl hh) d (by unfold slF; rw [e1, e3, e5]; exact e6) σ H Q E k
  | _ => cases e6
variable {T : Type} {G : T → Env_}
inductive DXP (X : Cx) (c : FC) {T : Type} (G : T → Env_) : Option Expr → (T → Option (Option Int × T)) → Prop
  | no : DXP X c G none (fun t => some (none, t))
  | yes {e : Expr} {m : T → Option (D × T)} (h : DX X c G e m) : DXP X c G (some e) (bindX m fun d => (isI d).map some)
theorem DXP.run {e : Option Expr} {m : T → Option (Option Int × T)} (h : DXP X c G e m) {t t' : T} {o : Option Int} (ho : m t = some (o, t')) {σ : St} {H : Hp} {Q : Option Int → Hp → Prop} (E : EnvOk X.K c σ H (G t)) (k : ∀ H', EnvOk X.K c σ H' (G t') → Step (G t) (G t') σ H H' → Q o H') : sO X e σ H Q := by
  cases h with
  | no =>
    cases ho
    exact k H E (.refl E)
  | yes h =>
    obtain ⟨d, e1, e2⟩ := bindX_eq ho
    obtain ⟨i, e3, rfl⟩ := Option.map_eq_some_iff.mp e2
    have e4 := isI_eq e3
    subst e4
    exact h t _ t' e1 σ H _ E fun v H' E' s r => ⟨i, RpW.int (.st r), k H' E' s⟩
def slX (g : Option Int → Option Int → D → Option D) (a : T → Option (D × T)) (lo hi : T → Option (Option Int × T)) : T → Option (D × T) := fun t => (a t).bind fun p => (lo p.2).bind fun l => (hi l.2).bind fun h => (g l.1 h.1 p.1).map fun z => (z, h.2)
theorem dx_slT {a : Expr} {lo hi : Option Expr} {ma : T → Option (D × T)} {ml mh : T → Option (Option Int × T)} {pos p2 : Pos} (ha : DX X c G a ma) (hl : DXP X c G lo ml) (hh : DXP X c G hi mh) : DX X c G (.Subscript a (.Slice lo hi none p2) pos) (slX dSlT ma ml mh) := fun t d t' hd σ H Q E k => by
  obtain ⟨⟨x, t1⟩, e1, e2⟩ := Option.bind_eq_some_iff.mp hd
  obtain ⟨⟨l, t2⟩, e3, e4⟩ := Option.bind_eq_some_iff.mp e2
  obtain ⟨⟨h, t3⟩, e5, e6⟩ := Option.bind_eq_some_iff.mp e4
  obtain ⟨z, e7, e8⟩ := Option.map_eq_some_iff.mp e6
  cases e8
  replace e7 : dSlT l h x = some d := e7
  unfold dSlT at e7
  split at e7
  · cases e7
    refine sE_of (pe_slice sl_tupA' (pe_s a) (po_s lo) (po_s hi)) ?_
    refine ha t _ t1 e1 σ H _ E fun v H1 E1 s1 r1 => hl.run e3 E1 fun H2 E2 s2 => hh.run e5 E2 fun H3 E3 s3 => ?_
    obtain ⟨b, xs, rfl, hq, r⟩ := RpW.tupleP (.st r1)
    have m23 : Mono H1 H3 := (s2.mono E1).trans (s3.mono E2)
    have r' := r.mono m23
    have st := (s1.trans s2).trans s3
    refine ⟨b, xs, rfl, (m23.pt hq).sq, fun hw => ?_, fun hw p u hp hu => ?_⟩
    · rw [r.length] at hw
      exact k _ H3 E3 st (by
        rw [cutD_whole hw]
        exact .tup (m23.pt hq) r')
    · exact k _ _ (E3.same (Same.new hp)) (st.trans (.of_same E3 (Same.new hp))) (.tup (.of hu upd_same) ((r'.cut l h).mono (.of_same (Same.new hp))))
  · cases e7
end
/-! a + b -/
theorem op_catL {X : Cx} : OpR X (binaryOp .Add) (fun x y H Q => ∃ l b xs zs, x = .ref l ∧ y = .ref b ∧ SqL X.K H l xs ∧ SqL X.K H b zs ∧ xs.length + zs.length ≤ sizeLine ∧ ∀ p, H p = none → Q (.ref p) (upd H p (.lst (xs ++ zs)))) := by
  intro pins s σ H x y v u Q I rx ry h
  obtain ⟨l, b, xs, zs, rfl, rfl, h1, h2, hz, q⟩ := h
  cases rx
  cases ry
  obtain ⟨its, rv, p, _⟩ := I.list h1
  obtain ⟨its2, rv2, p2, _⟩ := I.list h2
  obtain ⟨⟨c1, d1, t1, s1⟩, e1, ec, n, ed⟩ := id p.isList
  obtain ⟨⟨c2, d2, t2, s2⟩, e2, ec2, n2, ed2⟩ := id p2.isList
  simp only at ec ed ec2 ed2
  subst ec ed ec2 ed2
  have ea : its.toArray ++ its2.toArray = (its ++ its2).toArray := by simp
  refine concat_meets ⟨_, e1, rfl⟩ ⟨_, e2, rfl⟩ noFill_list_add seq_list_add PySem.F.slot_list_add PySem.F.entry_list_add (PySem.F.args_list_add_2 _ _) (list_addW l b its.toArray its2.toArray n n2 d1 d2 s1 s2 (by rw [List.size_toArray, List.size_toArray, ← rv.length, ← rv2.length]; exact hz)) ⟨e1, e2, ?_⟩
  rw [ea]
  exact ⟨.ref _, _, I.lnew (t' := s.toks) (rv.append rv2) (by rw [List.length_append]; exact hz), rfl, q _ I.fresh⟩
def dPlusL : D → D → Option (List D)
  | .list a, .list b => if a.length + b.length ≤ 100000 then some (a ++ b) else none
  | _, _ => none
def dPlus : D → D → Option D
  | .list a, .list b => if a.length + b.length ≤ 100000 then some (.list (a ++ b)) else none
  | x, y => dAdd x y
def plusF (a b : Option D) : Option (List D) := a.bind fun x => b.bind fun y => dPlusL x y
section
variable {X : Cx} {c : FC} {Γ : Env_}
theorem df_plus {a b : Expr} {ma mb : Option D} {pos : Pos} (ha : DW X c Γ a ma) (hb : DW X c Γ b mb) : DF X c Γ (.BinOp a .Add b pos) (plusF ma mb) := fun d hd σ H Q E k => by
  obtain ⟨x, e1, e2⟩ := Option.bind_eq_some_iff.mp hd
  obtain ⟨y, e3, e4⟩ := Option.bind_eq_some_iff.mp e2
  unfold dPlusL at e4
  split at e4
  · split at e4
    · rename_i hl
      cases e4
      refine sE_of (pe_op op_catL (pe_s a) (pe_s b)) (ha _ e1 σ H _ E fun v H1 s1 r1 => hb _ e3 σ H1 _ (E.same s1) fun u H2 s2 r2 => ?_)
      obtain ⟨p, xs, rfl, hp, q1⟩ := (r1.same s2).list
      obtain ⟨q, ys, rfl, hq, q2⟩ := r2.list
      refine ⟨p, q, xs, ys, rfl, rfl, hp, hq, by rw [q1.length, q2.length]; exact Nat.le_trans hl (by decide), fun z hz => ?_⟩
      exact k z _ _ ((s1.trans s2).free hz) ((s1.trans s2).trans (Same.new hz)) upd_same ((q1.append q2).mono (.of_same (Same.new hz)))
    · cases e4
  · cases e4
theorem dPlus_cases {x y d : D} (h : dPlus x y = some d) : (∃ ds, dPlusL x y = some ds ∧ d = .list ds) ∨ dAdd x y = some d := by
  unfold dPlus at h
  split at h
  · split at h
    · rename_i hl
      cases h
      exact .inl ⟨_, if_pos hl, rfl⟩
    · cases h
  · exact .inr h
theorem de_plus {a b : Expr} {ma mb : Option D} {pos : Pos} (ha : DW X c Γ a ma) (hb : DW X c Γ b mb) : DE X c Γ (.BinOp a .Add b pos) (bin dPlus ma mb) := fun d hd σ H Q E k => by
  obtain ⟨x, e1, e2⟩ := Option.bind_eq_some_iff.mp hd
  obtain ⟨y, e3, e4⟩ := Option.bind_eq_some_iff.mp e2
  rcases dPlus_cases e4 with ⟨ds, e5, rfl⟩ | e5
  · exact DF.e (df_plus ha hb) _ (by unfold plusF; rw [e1, Option.bind_some, e3, Option.bind_some, e5]; rfl) σ H Q E k
  · exact de_op od_add ha hb d (by unfold bin; rw [e1, Option.bind_some, e3, Option.bind_some, e5]) σ H Q E k
variable {T : Type} {G : T → Env_}
def plusXF (a b : T → Option (D × T)) : T → Option (List D × T) := fun t => (a t).bind fun p => (b p.2).bind fun q => (dPlusL p.1 q.1).map fun z => (z, q.2)
theorem dxf_plus {a b : Expr} {ma mb : T → Option (D × T)} {pos : Pos} (ha : DX X c G a ma) (hb : DX X c G b mb) : DXF X c G (.BinOp a .Add b pos) (plusXF ma mb) := fun t d t' hd σ H Q E k => by
  obtain ⟨⟨x, t1⟩, e1, e2⟩ := Option.bind_eq_some_iff.mp hd
  obtain ⟨⟨y, t2⟩, e3, e4⟩ := Option.bind_eq_some_iff.mp e2
  obtain ⟨z, e5, e6⟩ := Option.map_eq_some_iff.mp e4
  cases e6
  replace e5 : dPlusL x y = some d := e5
  unfold dPlusL at e5
  split at e5
  · split at e5
    · rename_i hl
      cases e5
      refine sE_of (pe_op op_catL (pe_s a) (pe_s b)) (ha t _ t1 e1 σ H _ E fun v H1 E1 s1 r1 => hb t1 _ _ e3 σ H1 _ E1 fun u H2 E2 s2 r2 => ?_)
      obtain ⟨p, xs, rfl, hp, q1⟩ := RpW.list (.st (r1.mono (s2.mono E1)))
      obtain ⟨q, ys, rfl, hq, q2⟩ := RpW.list (.st r2)
      refine ⟨p, q, xs, ys, rfl, rfl, hp, hq, by rw [q1.length, q2.length]; exact Nat.le_trans hl (by decide), fun z hz => ?_⟩
      exact k z _ _ ((s1.trans s2).free E hz) (E2.same (Same.new hz)) ((s1.trans s2).trans (.of_same E2 (Same.new hz))) upd_same ((q1.append q2).mono (.of_same (Same.new hz)))
    · cases e5
  · cases e5
theorem dx_plus {a b : Expr} {ma mb : T → Option (D × T)} {pos : Pos} (ha : DX X c G a ma) (hb : DX X c G b mb) : DX X c G (.BinOp a .Add b pos) (binX dPlus ma mb) := fun t d t' hd σ H Q E k => by
  obtain ⟨⟨x, t1⟩, e1, e2⟩ := Option.bind_eq_some_iff.mp hd
  obtain ⟨⟨y, t2⟩, e3, e4⟩ := Option.bind_eq_some_iff.mp e2
  obtain ⟨z, e5, e6⟩ := Option.map_eq_some_iff.mp e4
  cases e6
  rcases dPlus_cases e5 with ⟨ds, e7, rfl⟩ | e7
  · exact dxf_frz (dxf_plus ha hb) t _ _ (by show ((plusXF ma mb) t).map _ = _; unfold plusXF; rw [e1, Option.bind_some, e3, Option.bind_some, e7]; rfl) σ H Q E k
  · exact dx_op od_add ha hb t _ _ (by show ((ma t).bind _) = _; rw [e1, Option.bind_some, e3, Option.bind_some, e7]; rfl) σ H Q E k
end
end DL

set_option Elab.async false
set_option linter.all false
set_option maxRecDepth 100000
set_option maxHeartbeats 2000000
set_option autoImplicit false
namespace DL
open PySem PySem.Spec PyProof.Rows L2
/-! ### a law's end: the script handed to its def -/
theorem frz_only {K : Fr_} {H : Hp} {a : Addr} {xs : List V} (o : Only H) (h : SqL K H a xs) : Fz K H a xs := by
  rcases h with (h | h) | h
  · rcases o a with z | ⟨ob, ys, z⟩
    · rw [h] at z
      cases z
    · rw [h] at z
      cases z
  · exact .inl h
  · exact .inr (.inr h)
theorem ints_rp {K : Fr_} {H : Hp} : ∀ ns : List Int, RpA K H (ns.map V.int) (ns.map PyData.int)
  | [] => .nil
  | n :: r => .cons (.int n) (ints_rp r)
section
variable {P : Program} {w : World} {K : Fr_} {mg mb : Str → Option Value} {k : Nat} {x : Str} {a fa : Addr} {s₁ : Shared} {vs : List Value} {ns : List Int} {g : List D → Option D}
theorem end_core {H : Hp} (KX : K.In s₁.heap) (hns : s₁.heap.Ns mainGlobals mg) (hb : s₁.heap.Ns builtinsNs mb) (hbb : ∀ y : Str, y ≠ "__name__" → mb y = bootBuiltins y) (hlim : s₁.heap.NoLimit) (hgen : s₁.gens = #[])
    (ha : s₁.heap.get? a = some { cls := .type "list", data := .seq vs.toArray }) (room : Room k callerA) (hf : mg x = some (.ref fa)) (F : ∀ base : Heap, K.In base → base.Ns mainGlobals mg → CalG P w K mg base k x (spP K g)) (hg : g [.list (ns.map .int)] = some (.bool true))
    (hO : Only H) (hS : SqL K H a (ns.map V.int)) (hok : HOk P w H s₁.heap) (hA : ∀ b, H b ≠ none → b = a) (hK : H a ≠ none → K.lookup a = none) :
    codeAny (model P w) callerA (.call (.ref fa) ⟨[.ref a], []⟩) (fun r s' => r = .ok (.ret (.bool true)) ∧ OldK s₁.heap s'.heap ∧ s'.os = s₁.os ∧ AllBare s'.gens) s₁ := by
  have toT : ∀ {b : Addr} {o : Obj}, s₁.heap.get? b = some o → H b = none → (hidT s₁.heap H).get? b = some o := fun h1 h2 => hidT_get h1 h2
  have dictN : ∀ {b : Addr} {o : Obj} {es : Array DictEntry} {ep : Nat}, s₁.heap.get? b = some o → o.data = .dict es ep → H b = none := by
    intro b o es ep h1 h2
    by_cases hb : H b = none
    · exact hb
    · have eb := hA b hb
      rw [eb, ha] at h1
      cases h1
      have z : Data.seq vs.toArray _ = Data.dict es ep := h2
      cases z
  have nsT : ∀ {b : Addr} {m : Str → Option Value}, s₁.heap.Ns b m → (hidT s₁.heap H).Ns b m := by
    rintro b m ⟨o, es, ep, h1, h2, h3⟩
    exact ⟨o, es, ep, toT h1 (dictN h1 h2), h2, h3⟩
  have inT : K.In (hidT s₁.heap H) := by
    intro b o h1
    refine toT (KX b o h1) ?_
    by_cases hb : H b = none
    · exact hb
    · have eb := hA b hb
      subst eb
      rw [hK hb] at h1
      cases h1
  have md : Mod K mg (hidT s₁.heap H) := by
    obtain ⟨mc, m1, m2⟩ := hlim
    exact ⟨inT, nsT hns, ⟨mb, nsT hb, hbb⟩, mc, nsT m1, m2⟩
  have env : Env0 P w K mg (hidT s₁.heap H) callerA [] s₁ H := ⟨rfl, md, fun b o h => of_hidT h, Nat.le_of_eq (hidT_size _ _), trivial, fun b hb => (by cases (show b ∈ ([] : List Addr) from hb)), hok, .of_eq hgen⟩
  obtain ⟨f, fd, ps, FF, hm, _, hbd⟩ := (F _ inT (nsT hns)).ex
  have ef : f = fa := by
    rw [hf] at hm
    cases hm
    rfl
  subst ef
  have sp : spP K g [.ref a] H (fun v _ => v = .bl true) := ⟨[.list (ns.map .int)], .bool true, .cons (.lst (frz_only hO hS) (ints_rp ns)) .nil, hg, fun v H' _ r => RpW.bool (.st r)⟩
  have hl : ([Value.ref a] ++ []).length = ps.length := FF.many sp
  have bt := hbd s₁ [.ref a] KX hl
  refine codeAny_mono (FF.runs (args := ⟨[.ref a], []⟩) room rfl env bt (.cons (show RelV (.ref a) (.ref a) from rfl) .nil) sp) fun r s' h => ?_
  match r, h with
  | .ok (.ret u), ⟨v, H', os, bare, un, hok', r', q⟩ =>
    have q' : v = .bl true := q
    subst q'
    obtain rfl : u = Value.bool true := r'
    refine ⟨rfl, OldK.of_keep fun b o e => ?_, os, bare⟩
    rcases hO b with hb | ⟨ob, xs, hb⟩
    · exact un.keep b o e hb (fun z => by cases (show b ∈ ([] : List Addr) from z)) (by simp)
    · have z2 := un.frzs b ob _ hb
      obtain ⟨e1, _⟩ := hok b _ hb
      obtain ⟨e2, _⟩ := hok' b _ z2
      rw [e] at e1
      cases e1
      exact e2
theorem end_call (KX : K.In s₁.heap) (hns : s₁.heap.Ns mainGlobals mg) (hb : s₁.heap.Ns builtinsNs mb) (hbb : ∀ y : Str, y ≠ "__name__" → mb y = bootBuiltins y) (hlim : s₁.heap.NoLimit) (hgen : s₁.gens = #[])
    (ha : s₁.heap.get? a = some { cls := .type "list", data := .seq vs.toArray }) (hi : IntsAre vs ns) (hl : ns.length ≤ sizeLine) (room : Room k callerA) (hf : mg x = some (.ref fa)) (F : ∀ base : Heap, K.In base → base.Ns mainGlobals mg → CalG P w K mg base k x (spP K g)) (hg : g [.list (ns.map .int)] = some (.bool true)) :
    codeAny (model P w) callerA (.call (.ref fa) ⟨[.ref a], []⟩) (fun r s' => r = .ok (.ret (.bool true)) ∧ OldK s₁.heap s'.heap ∧ s'.os = s₁.os ∧ AllBare s'.gens) s₁ := by
  have rv := vals_ints hi
  by_cases hk : K.lookup a = none
  · generalize hH : (fun b : Addr => if b = a then some (HO.frz { cls := .type "list", data := .seq vs.toArray } (.lst (ns.map V.int))) else none) = H
    have at_a : H a = some (HO.frz { cls := .type "list", data := .seq vs.toArray } (.lst (ns.map V.int))) := by
      rw [← hH]
      exact if_pos rfl
    have off_a : ∀ b, b ≠ a → H b = none := fun b hb => by
      rw [← hH]
      exact if_neg hb
    refine end_core (H := H) KX hns hb hbb hlim hgen ha room hf F hg (fun b => ?_) (.inl (.inr ⟨_, at_a⟩)) (fun b u hu => ?_) (fun b hb => ?_) fun _ => hk
    · by_cases e : b = a
      · rw [e]
        exact .inr ⟨_, _, at_a⟩
      · exact .inl (off_a b e)
    · by_cases e : b = a
      · rw [e] at hu ⊢
        rw [at_a] at hu
        cases hu
        exact ⟨ha, by rw [List.length_map]; exact hl, vs, _, rv, ha⟩
      · rw [off_a b e] at hu
        cases hu
    · by_cases e : b = a
      · exact e
      · exact absurd (off_a b e) hb
  · obtain ⟨o, ho⟩ := Option.ne_none_iff_exists'.mp hk
    have e := KX a o ho
    rw [ha] at e
    cases e
    refine end_core (H := fun _ => none) KX hns hb hbb hlim hgen ha room hf F hg (fun _ => .inl rfl) (.inr ⟨_, vs.toArray, _, ho, rfl, rfl, rfl, by rw [List.size_toArray, hi.length]; exact hl, by simpa using rv⟩) (fun b u hu => ?_) (fun b hb => absurd rfl hb) fun hb => absurd rfl hb
    have z : (none : Option HO) = some u := hu
    cases z
end
/-- the goal of the head: the def's promise, its answer at every script -/
theorem walk_end {l : PySem.W.OpenLaw} {n k : Nat} {q : Program} {loose : List Str} {XP : (Str → Option Value) → Heap → Prop} {YP : World → Heap → Prop} {d : DefRec} {g : List D → Option D} {x : Str} (hn : l.most = some n) (hn2 : n ≤ sizeLine) (hdf : d.params.defaults = []) (room : Room k callerA) (hx : d.name = x)
    (F : ∀ (w : World) (mg : Str → Option Value) (h : Heap), YP w h → h.Ns mainGlobals mg → ∃ K : PySem.W.Frag, K.In h ∧ ∀ base : Heap, K.In base → base.Ns mainGlobals mg → CalG l.prog w K mg base k x (spP K g))
    (hg : ∀ ns : List Int, ns.length ≤ n → g [.list (ns.map .int)] = some (.bool true)) : PySem.W.WalkO q loose XP YP l.row.toRowW d [] (fun f vs => PySem.call f vs) := by
  refine Att.attach_call hn hdf fun w s₀ s₁ mg mb fa o pm cd doc a vs ns G Y ho hd hcd hmg hobj hints hlen hgen => ?_
  obtain ⟨K, KX, FF⟩ := F w mg _ Y G.T.g
  rw [hx] at hmg
  exact end_call KX G.T.g G.T.b G.T.builtins G.T.nolimit hgen hobj hints (Nat.le_trans hlen hn2) room hmg FF (hg ns hlen)
end DL

set_option Elab.async false
set_option linter.all false
set_option maxRecDepth 100000
set_option maxHeartbeats 2000000
set_option autoImplicit false
namespace DL
open PySem PySem.Spec PyProof.Rows L2
/-! ### plain facts about the mirrors' parts -/
@[simp] theorem consO_s (x : D) (xs : List D) : consO (some x) (some xs) = some (x :: xs) := rfl
@[simp] theorem bin_s (g : D → D → Option D) (x y : D) : bin g (some x) (some y) = g x y := rfl
@[simp] theorem lenOk_s {xs : List D} (h : xs.length ≤ 100000) : lenOk (some xs) = some xs := if_pos h
@[simp] theorem andV_t (m : Option D) : andV (some (.bool true)) m = m := rfl
@[simp] theorem andV_f (m : Option D) : andV (some (.bool false)) m = some (.bool false) := rfl
@[simp] theorem orV_t (m : Option D) : orV (some (.bool true)) m = some (.bool true) := rfl
@[simp] theorem orV_f (m : Option D) : orV (some (.bool false)) m = m := rfl
theorem andV_b (a b : Bool) : andV (some (.bool a)) (some (.bool b)) = some (.bool (a && b)) := by cases a <;> rfl
theorem orV_b (a b : Bool) : orV (some (.bool a)) (some (.bool b)) = some (.bool (a || b)) := by cases a <;> rfl
@[simp] theorem notV_s (a : Bool) : notV (some (.bool a)) = some (.bool (!a)) := rfl
@[simp] theorem andT_t (m : Option Bool) : andT (some true) m = m := rfl
@[simp] theorem andT_f (m : Option Bool) : andT (some false) m = some false := rfl
@[simp] theorem orT_t (m : Option Bool) : orT (some true) m = some true := rfl
@[simp] theorem orT_f (m : Option Bool) : orT (some false) m = m := rfl
theorem andT_b (a b : Bool) : andT (some a) (some b) = some (a && b) := by cases a <;> rfl
theorem orT_b (a b : Bool) : orT (some a) (some b) = some (a || b) := by cases a <;> rfl
@[simp] theorem iteO_t {α : Type} (a b : Option α) : iteO (some true) a b = a := rfl
@[simp] theorem iteO_f {α : Type} (a b : Option α) : iteO (some false) a b = b := rfl
theorem iteO_b {α : Type} (t : Bool) (a b : Option α) : iteO (some t) a b = if t then a else b := rfl
@[simp] theorem isB_s (b : Bool) : isB (.bool b) = some b := rfl
@[simp] theorem isI_s (b : Int) : isI (.int b) = some b := rfl
@[simp] theorem finP_rt (d : D) : finP (.rt d) = some d := rfl
@[simp] theorem finP_nx (u : Unit) : finP (.nx u) = some .none := rfl
@[simp] theorem finF_rt (d : List D) : finF (.rt d) = some d := rfl
@[simp] theorem finM_rt (d : D × List D) : finM (.rt d) = some d := rfl
@[simp] theorem finM_nx (d : List D) : finM (.nx d) = some (.none, d) := rfl
@[simp] theorem finMF_rt (d : List D × List D) : finMF (.rt d) = some d := rfl
@[simp] theorem cast_rt {N B R : Type} (r : R) : castFl (N := N) (B := B) (.rt r) = .rt r := rfl
@[simp] theorem cast_bk {N B R : Type} (r : B) : castFl (N := N) (R := R) (.bk r) = .bk r := rfl
@[simp] theorem cast_ct {N B R : Type} (r : B) : castFl (N := N) (R := R) (.ct r) = .ct r := rfl
@[simp] theorem seqFl_nx {N1 N B R : Type} (mr : N1 → Option (Fl N B R)) (n : N1) : seqFl mr (.nx n) = mr n := rfl
@[simp] theorem seqFl_rt {N1 N B R : Type} (mr : N1 → Option (Fl N B R)) (n : R) : seqFl mr (.rt n) = some (.rt n) := rfl
@[simp] theorem seqFl_bk {N1 N B R : Type} (mr : N1 → Option (Fl N B R)) (n : B) : seqFl mr (.bk n) = some (.bk n) := rfl
@[simp] theorem seqFl_ct {N1 N B R : Type} (mr : N1 → Option (Fl N B R)) (n : B) : seqFl mr (.ct n) = some (.ct n) := rfl
@[simp] theorem seqLp_nx {L N B R : Type} (mr : L → Option (Fl N B R)) (n : L) : seqLp mr (.nx n) = mr n := rfl
@[simp] theorem seqLp_rt {L N B R : Type} (mr : L → Option (Fl N B R)) (n : R) : seqLp mr (.rt n) = some (.rt n) := rfl
@[simp] theorem forF_nil {L R : Type} (f : L → D → Option (Fl L L R)) (l : L) : forF f [] l = some (.nx l) := rfl
theorem forF_cons {L R : Type} (f : L → D → Option (Fl L L R)) (x : D) (r : List D) (l : L) : forF f (x :: r) l = (f l x).bind fun o => match o with | .nx l' => forF f r l' | .ct l' => forF f r l' | .bk l' => some (.nx l') | .rt z => some (.rt z) := rfl
@[simp] theorem un2_s {P Q : Type} (p1 : D → Option P) (p2 : D → Option Q) (a b : D) : un2 p1 p2 (.tuple [a, b]) = (p1 a).bind fun u => (p2 b).map fun w => (u, w) := rfl
@[simp] theorem un3_s {P Q R : Type} (p1 : D → Option P) (p2 : D → Option Q) (p3 : D → Option R) (a b c : D) : un3 p1 p2 p3 (.tuple [a, b, c]) = (p1 a).bind fun u => (p2 b).bind fun w => (p3 c).map fun z => (u, w, z) := rfl
@[simp] theorem iterD_l (ds : List D) : iterD (.list ds) = some ds := rfl
@[simp] theorem iterD_t (ds : List D) : iterD (.tuple ds) = some ds := rfl
@[simp] theorem dAdd_ii (a b : Int) : dAdd (.int a) (.int b) = some (.int (a + b)) := rfl
@[simp] theorem dSub_ii (a b : Int) : dSub (.int a) (.int b) = some (.int (a - b)) := rfl
@[simp] theorem dNeg_i (a : Int) : dNeg (.int a) = some (.int (-a)) := rfl
theorem fitsM_of {a : Int} (h : a.natAbs < 2 ^ 1000) : fitsM a = true := cl_iff.mpr h
theorem p60 : (2 : Nat) ^ 60 ≤ 2 ^ 1000 := Nat.pow_le_pow_right (by decide) (by decide)
theorem fitsM_60 {a : Int} (h : a.natAbs < 2 ^ 60) : fitsM a = true := cl_iff.mpr (Nat.lt_of_lt_of_le h p60)
theorem dMul_ii {a b : Int} (ha : a.natAbs < 2 ^ 1000) (hb : b.natAbs < 2 ^ 1000) : dMul (.int a) (.int b) = some (.int (a * b)) := if_pos (show (fitsM a && fitsM b) = true by rw [fitsM_of ha, fitsM_of hb]; rfl)
theorem dMul_60 {a b : Int} (ha : a.natAbs < 2 ^ 60) (hb : b.natAbs < 2 ^ 60) : dMul (.int a) (.int b) = some (.int (a * b)) := dMul_ii (Nat.lt_of_lt_of_le ha p60) (Nat.lt_of_lt_of_le hb p60)
theorem dFdiv_ii {a b : Int} (h : 0 < b) (hb : b.natAbs < 2 ^ 1000) : dFdiv (.int a) (.int b) = some (.int (a / b)) := if_pos (show (decide (0 < b) && fitsM b) = true by rw [fitsM_of hb, decide_eq_true h]; rfl)
theorem dMod_ii {a b : Int} (h : 0 < b) : dMod (.int a) (.int b) = some (.int (a % b)) := if_pos h
theorem dPow_ii {a : Int} {n : Nat} (h : n ≤ 1000) (ha : a.natAbs < 2 ^ 1000) : dPow (.int a) (.int (n : Int)) = some (.int (a ^ n)) :=
  if_pos (show ((cl (0 ≤ (n : Int)) && cl ((n : Int) ≤ 1000)) && fitsM a) = true by rw [fitsM_of ha, cl_iff.mpr (show (0 : Int) ≤ (n : Int) from Int.natCast_nonneg n), cl_iff.mpr (show (n : Int) ≤ 1000 by omega)]; rfl)
/-! comparisons -/
theorem lt_int (a b : Int) : PySem.W.dataLt (.int a) (.int b) = decide (a < b) := PySem.W.dataLt_int a b
theorem ordOk_ii (a b : Int) : ordOk (.int a) (.int b) = true := rfl
@[simp] theorem dLt_ii (a b : Int) : dLt (.int a) (.int b) = some (.bool (decide (a < b))) := by unfold dLt; rw [ordOk_ii, if_pos rfl, lt_int]
@[simp] theorem dLe_ii (a b : Int) : dLe (.int a) (.int b) = some (.bool (decide (a ≤ b))) := by
  unfold dLe
  rw [ordOk_ii, if_pos rfl, lt_int]
  congr 2
  by_cases h : a ≤ b
  · rw [decide_eq_true h, decide_eq_false (by omega)]
    rfl
  · rw [decide_eq_false h, decide_eq_true (by omega)]
    rfl
@[simp] theorem dGt_ii (a b : Int) : dGt (.int a) (.int b) = some (.bool (decide (b < a))) := by unfold dGt; rw [ordOk_ii, if_pos rfl, lt_int]
@[simp] theorem dGe_ii (a b : Int) : dGe (.int a) (.int b) = some (.bool (decide (b ≤ a))) := by
  unfold dGe
  rw [ordOk_ii, if_pos rfl, lt_int]
  congr 2
  by_cases h : b ≤ a
  · rw [decide_eq_true h, decide_eq_false (by omega)]
    rfl
  · rw [decide_eq_false h, decide_eq_true (by omega)]
    rfl
theorem eqv_ii (a b : Int) : PyData.eqv (.int a) (.int b) = decide (a = b) := by
  rw [PyData.eqv]
  by_cases h : a = b
  · simp [h]
  · simp [h]
@[simp] theorem dEq_ii (a b : Int) : dEq (.int a) (.int b) = some (.bool (decide (a = b))) := (if_pos rfl).trans (by rw [eqv_ii])
@[simp] theorem dNe_ii (a b : Int) : dNe (.int a) (.int b) = some (.bool (!decide (a = b))) := (if_pos rfl).trans (by rw [eqv_ii])
theorem eqv_ss (a b : Str) : PyData.eqv (.str a) (.str b) = decide (a = b) := by
  rw [PyData.eqv]
  by_cases h : a = b
  · simp [h]
  · simp [h]
@[simp] theorem dEq_ss (a b : Str) : dEq (.str a) (.str b) = some (.bool (decide (a = b))) := (if_pos rfl).trans (by rw [eqv_ss])
@[simp] theorem dNe_ss (a b : Str) : dNe (.str a) (.str b) = some (.bool (!decide (a = b))) := (if_pos rfl).trans (by rw [eqv_ss])
@[simp] theorem dEq_bb (a b : Bool) : dEq (.bool a) (.bool b) = some (.bool (a == b)) := (if_pos rfl).trans (by rw [PyData.eqv])
@[simp] theorem dNe_bb (a b : Bool) : dNe (.bool a) (.bool b) = some (.bool (!(a == b))) := (if_pos rfl).trans (by rw [PyData.eqv])
/-! ### data without dicts, small leaves -/
mutual
/-- ints below 10 ^ 18, plain texts -/
def nice : D → Bool
  | .none => true
  | .bool _ => true
  | .int i => decide (i.natAbs < 10 ^ 18)
  | .str x => PyData.strOk x && x.cps.toList.all fun c => decide (c < 16 ^ 8)
  | .list xs => niceAll xs
  | .tuple xs => niceAll xs
  | .dict _ => false
def niceAll : List D → Bool
  | [] => true
  | x :: xs => nice x && niceAll xs
end
theorem niceAll_iff {xs : List D} : niceAll xs = true ↔ ∀ x ∈ xs, nice x = true := by
  induction xs with
  | nil => simp [niceAll]
  | cons x r ih => simp [niceAll, ih]
theorem log_of {i : Int} (h : i.natAbs < 10 ^ 18) : i.natAbs.log2 < 1920 := by
  by_cases h0 : i.natAbs = 0
  · rw [h0]
    decide
  · exact (Nat.log2_lt h0).mpr (Nat.lt_of_lt_of_le h (Nat.le_trans (by decide : (10 : Nat) ^ 18 ≤ 2 ^ 60) (Nat.pow_le_pow_right (by decide) (by decide))))
mutual
theorem nice_show : ∀ d : D, nice d = true → d.showable = true ∧ d.hasDict = false ∧ d.leavesShort 19 = true ∧ d.canLay0 = true
  | .none, _ => ⟨rfl, rfl, rfl, rfl⟩
  | .bool _, _ => ⟨rfl, rfl, rfl, rfl⟩
  | .int i, h => by
    have h' : i.natAbs < 10 ^ 18 := of_decide_eq_true h
    refine ⟨decide_eq_true (log_of h'), rfl, decide_eq_true ?_, rfl⟩
    have q := int_text_length_le10 (a := i) (k := 18) (by decide) h'
    show (Str.ofString (toString i)).length ≤ 19
    rw [PySem.ofString_length]
    exact q
  | .str x, h => by
    obtain ⟨h1, h2⟩ := Bool.and_eq_true_iff.mp h
    exact ⟨rfl, rfl, h2, h1⟩
  | .list xs, h => niceAll_show xs h
  | .tuple xs, h => niceAll_show xs h
  | .dict _, h => by cases h
theorem niceAll_show : ∀ xs : List D, niceAll xs = true → PyData.showableAll xs = true ∧ PyData.hasDictAll xs = false ∧ PyData.leavesShortAll 19 xs = true ∧ PyData.canLayAll0 xs = true
  | [], _ => ⟨rfl, rfl, rfl, rfl⟩
  | x :: xs, h => by
    obtain ⟨h1, h2⟩ := Bool.and_eq_true_iff.mp h
    obtain ⟨a1, a2, a3, a4⟩ := nice_show x h1
    obtain ⟨b1, b2, b3, b4⟩ := niceAll_show xs h2
    refine ⟨?_, ?_, ?_, ?_⟩
    · rw [PyData.showableAll, a1, b1]; rfl
    · rw [PyData.hasDictAll, a2, b2]; rfl
    · rw [PyData.leavesShortAll, a3, b3]; rfl
    · rw [PyData.canLayAll0, a4, b4]; rfl
end
theorem repr_nice {d : D} (h : nice d = true) (hd : d.depth ≤ 64) (hb : d.bulk ≤ 40000) : dRepr [d] = some (.str d.shown) := by
  obtain ⟨h1, h2, h3, _⟩ := nice_show d h
  have q := PyData.shown_le_bulk 19 (by decide) d h3
  refine if_pos ?_
  rw [h1, h2, decide_eq_true (show d.shown.length ≤ 1000000 by omega), decide_eq_true hd]
  rfl
theorem shaped_nice {d : D} (h : nice d = true) (hd : d.depth ≤ 64) : SeqAt.shaped d = true := by
  unfold SeqAt.shaped
  rw [(nice_show d h).2.2.2, decide_eq_true hd]
  rfl
theorem dEq_nice {a b : D} (ha : nice a = true) (hb : nice b = true) (da : a.depth ≤ 64) (db : b.depth ≤ 64) : dEq a b = some (.bool (PyData.eqv a b)) := if_pos (by rw [shaped_nice ha da, shaped_nice hb db]; simp)
theorem dNe_nice {a b : D} (ha : nice a = true) (hb : nice b = true) (da : a.depth ≤ 64) (db : b.depth ≤ 64) : dNe a b = some (.bool (!PyData.eqv a b)) := if_pos (by rw [shaped_nice ha da, shaped_nice hb db]; simp)
mutual
theorem eqv_refl : ∀ d : D, nice d = true → PyData.eqv d d = true
  | .none, _ => rfl
  | .bool b, _ => by rw [PyData.eqv]; simp
  | .int i, _ => by rw [eqv_ii]; simp
  | .str x, _ => by rw [eqv_ss]; simp
  | .list xs, h => by rw [PyData.eqv]; exact eqvAll_refl xs h
  | .tuple xs, h => by rw [PyData.eqv]; exact eqvAll_refl xs h
  | .dict _, h => by cases h
theorem eqvAll_refl : ∀ xs : List D, niceAll xs = true → PyData.eqvAll xs xs = true
  | [], _ => rfl
  | x :: xs, h => by
    obtain ⟨h1, h2⟩ := Bool.and_eq_true_iff.mp h
    rw [PyData.eqvAll, eqv_refl x h1, eqvAll_refl xs h2]
    rfl
end
/-! ### rows of ints -/
abbrev tI (xs : List Int) : D := .tuple (xs.map .int)
theorem nice_ints {xs : List Int} (h : ∀ x ∈ xs, x.natAbs < 10 ^ 18) : niceAll (xs.map .int) = true := niceAll_iff.mpr fun d hd => by
  obtain ⟨x, hx, rfl⟩ := List.mem_map.mp hd
  exact decide_eq_true (h x hx)
theorem bulk_ints (xs : List Int) : PyData.bulkAll (xs.map .int) = xs.length := by
  induction xs with
  | nil => rfl
  | cons x r ih =>
    show PyData.bulk (.int x) + 1 + PyData.bulkAll (r.map .int) = _
    rw [ih, PyData.bulk, List.length_cons]
    omega
theorem depth_ints (xs : List Int) : PyData.depthAll (xs.map .int) = 0 := by
  induction xs with
  | nil => rfl
  | cons x r ih =>
    show max (PyData.depth (.int x)) (PyData.depthAll (r.map .int)) = _
    rw [ih]
    rfl
theorem depth_tI (xs : List Int) : (tI xs).depth = 1 := by
  show PyData.depthAll (xs.map .int) + 1 = 1
  rw [depth_ints]
theorem repr_tI {xs : List Int} (h : ∀ x ∈ xs, x.natAbs < 10 ^ 18) (hl : xs.length ≤ 40000) : dRepr [tI xs] = some (.str (tI xs).shown) := repr_nice (nice_ints h) (by rw [depth_tI]; decide) (by
  show PyData.bulkAll (xs.map .int) ≤ 40000
  rw [bulk_ints]
  exact hl)
theorem eqv_ints : ∀ xs ys : List Int, PyData.eqvAll (xs.map .int) (ys.map .int) = decide (xs = ys)
  | [], [] => rfl
  | [], _ :: _ => rfl
  | _ :: _, [] => rfl
  | x :: xs, y :: ys => by
    show PyData.eqvAll (.int x :: xs.map .int) (.int y :: ys.map .int) = _
    rw [PyData.eqvAll, eqv_ii, eqv_ints xs ys]
    by_cases h : x = y
    · by_cases h2 : xs = ys
      · simp [h, h2]
      · simp [h, h2]
    · simp [h]
theorem eqv_tI (xs ys : List Int) : PyData.eqv (tI xs) (tI ys) = decide (xs = ys) := by
  rw [PyData.eqv]
  exact eqv_ints xs ys
@[simp] theorem dLen_t (xs : List D) : dLen [.tuple xs] = some (.int (xs.length : Nat)) := rfl
@[simp] theorem dLen_l (xs : List D) : dLen [.list xs] = some (.int (xs.length : Nat)) := rfl
@[simp] theorem dMax_ii (a b : Int) : dMax [.int a, .int b] = some (.int (max a b)) := rfl
@[simp] theorem dMin_ii (a b : Int) : dMin [.int a, .int b] = some (.int (min a b)) := rfl
theorem alike_ints (xs : List Int) : allAlike (xs.map .int) = true := by
  unfold allAlike
  rw [List.all_eq_true]
  intro d hd
  obtain ⟨x, _, rfl⟩ := List.mem_map.mp hd
  have : (((xs.map PyData.int).all fun y => PySem.W.alike (.int x) y) = true) := List.all_eq_true.mpr fun e he => by
    obtain ⟨y, _, rfl⟩ := List.mem_map.mp he
    rfl
  rw [this]
  rfl
/-- the greatest -/
def maxI (x : Int) (xs : List Int) : Int := xs.foldl max x
theorem maxD_ints (x : Int) (xs : List Int) : PySem.W.maxD (.int x) (xs.map .int) = .int (maxI x xs) := by
  induction xs generalizing x with
  | nil => rfl
  | cons y r ih =>
    show PySem.W.maxD (if PySem.W.dataLt (.int x) (.int y) then .int y else .int x) (r.map .int) = _
    rw [lt_int]
    by_cases h : x < y
    · rw [decide_eq_true h, if_pos rfl, ih]
      show _ = PyData.int (r.foldl max (max x y))
      rw [show max x y = y by omega]
      rfl
    · rw [decide_eq_false h, if_neg (by decide), ih]
      show _ = PyData.int (r.foldl max (max x y))
      rw [show max x y = x by omega]
      rfl
theorem dMax_l (x : Int) (xs : List Int) : dMax [.list ((x :: xs).map .int)] = some (.int (maxI x xs)) := by
  rw [← maxD_ints]
  exact if_pos (alike_ints (x :: xs))
theorem dMax_t (x : Int) (xs : List Int) : dMax [.tuple ((x :: xs).map .int)] = some (.int (maxI x xs)) := by
  rw [← maxD_ints]
  exact if_pos (alike_ints (x :: xs))
theorem maxI_le {x : Int} {xs : List Int} {b : Int} : maxI x xs ≤ b ↔ x ≤ b ∧ ∀ y ∈ xs, y ≤ b := by
  induction xs generalizing x with
  | nil => simp [maxI]
  | cons y r ih =>
    show maxI (max x y) r ≤ b ↔ _
    rw [ih, Int.max_le, and_assoc]
    simp only [List.mem_cons, forall_eq_or_imp]
theorem le_maxI {x : Int} {xs : List Int} : x ≤ maxI x xs ∧ ∀ y ∈ xs, y ≤ maxI x xs := maxI_le.mp (Int.le_refl _)
theorem dAll_map {α : Type} (f : α → Bool) (xs : List α) : dAll [.list (xs.map fun x => .bool (f x))] = some (.bool (xs.all f)) := by
  show (boolsD (xs.map fun x => .bool (f x))).map _ = _
  have e : (xs.map fun x => PyData.bool (f x)) = (xs.map f).map .bool := by rw [List.map_map]; rfl
  rw [show (xs.map fun x => (PyData.bool (f x))) = (xs.map f).map .bool from e, boolsD_map]
  simp [List.all_map]
theorem dAny_map {α : Type} (f : α → Bool) (xs : List α) : dAny [.list (xs.map fun x => .bool (f x))] = some (.bool (xs.any f)) := by
  show (boolsD (xs.map fun x => .bool (f x))).map _ = _
  have e : (xs.map fun x => PyData.bool (f x)) = (xs.map f).map .bool := by rw [List.map_map]; rfl
  rw [show (xs.map fun x => (PyData.bool (f x))) = (xs.map f).map .bool from e, boolsD_map]
  simp [List.any_map]
/-! ### comprehensions, loops -/
/-- over things told by α: the mirror's answer -/
theorem lcF_map {P α : Type} {pm : D → Option P} {mt : P → Option Bool} {me : P → Option D} (enc : α → D) (t : α → Bool) (h : α → D) : ∀ xs : List α, (∀ a ∈ xs, ∃ p, pm (enc a) = some p ∧ mt p = some (t a) ∧ (t a = true → me p = some (h a))) → lcF pm mt me (xs.map enc) = some ((xs.filter t).map h)
  | [], _ => rfl
  | a :: r, q => by
    obtain ⟨p, h1, h2, h3⟩ := q a List.mem_cons_self
    have ih := lcF_map enc t h r fun b hb => q b (List.mem_cons_of_mem _ hb)
    show ((pm (enc a)).bind fun p => (mt p).bind fun b => if b then (me p).bind fun d => (lcF pm mt me (r.map enc)).map (d :: ·) else lcF pm mt me (r.map enc)) = _
    rw [h1, Option.bind_some, h2, Option.bind_some, ih]
    cases e : t a with
    | true =>
      rw [if_pos rfl, h3 e, List.filter_cons, e]
      rfl
    | false =>
      rw [if_neg (by decide), List.filter_cons, e]
      rfl
theorem lcF_all {P α : Type} {pm : D → Option P} {me : P → Option D} (enc : α → D) (h : α → D) (xs : List α) (q : ∀ a ∈ xs, ∃ p, pm (enc a) = some p ∧ me p = some (h a)) : lcF pm (fun _ => some true) me (xs.map enc) = some (xs.map h) := by
  rw [lcF_map enc (fun _ => true) h xs fun a ha => by
    obtain ⟨p, h1, h2⟩ := q a ha
    exact ⟨p, h1, rfl, fun _ => h2⟩]
  rw [List.filter_eq_self.mpr fun _ _ => rfl]
/-- a loop that goes through all: the state told by σ -/
theorem forF_fold {L R α σ : Type} {f : L → D → Option (Fl L L R)} (enc : α → D) (enL : σ → L) (step : σ → α → σ) (inv : Nat → σ → Prop) (xs : List α) (s : σ) (k : Nat) (h0 : inv k s)
    (h : ∀ i (a : α) (s : σ), xs[i]? = some a → inv (k + i) s → f (enL s) (enc a) = some (.nx (enL (step s a))) ∧ inv (k + i + 1) (step s a)) : forF f (xs.map enc) (enL s) = some (.nx (enL (xs.foldl step s))) ∧ inv (k + xs.length) (xs.foldl step s) := by
  induction xs generalizing s k with
  | nil => exact ⟨rfl, h0⟩
  | cons a r ih =>
    obtain ⟨h1, h2⟩ := h 0 a s rfl h0
    have q := ih (step s a) (k + 1) h2 fun i b s' hi hs => by
      have z := h (i + 1) b s' (by simpa using hi) (by rw [show k + (i + 1) = k + 1 + i by omega]; exact hs)
      rw [show k + (i + 1) = k + 1 + i by omega] at z
      exact z
    refine ⟨?_, ?_⟩
    · show (f (enL s) (enc a)).bind _ = _
      rw [h1]
      exact q.1
    · rw [List.length_cons, show k + (r.length + 1) = k + 1 + r.length by omega]
      exact q.2
@[simp] theorem dPlus_ii (a b : Int) : dPlus (.int a) (.int b) = some (.int (a + b)) := rfl
theorem dPlus_tt {a b : List D} (h : a.length + b.length ≤ 100000) : dPlus (.tuple a) (.tuple b) = some (.tuple (a ++ b)) := if_pos (Nat.le_trans h (by decide))
theorem dPlus_ll {a b : List D} (h : a.length + b.length ≤ 100000) : dPlus (.list a) (.list b) = some (.list (a ++ b)) := if_pos h
theorem appD_s {ds : List D} {d : D} (h : ds.length < 100000) : appD ds d = some (ds ++ [d]) := if_pos h
theorem cut_to {α : Type} (ds : List α) (k : Nat) : cutD ds none (some (k : Int)) = ds.take k := by
  unfold cutD
  rw [HT.sIx_none, HT.sIx_nat, List.drop_zero, Nat.sub_zero, Nat.min_def]
  split
  · rfl
  · rw [List.take_of_length_le (Nat.le_refl _), List.take_of_length_le (by omega)]
theorem cut_from {α : Type} (ds : List α) (k : Nat) : cutD ds (some (k : Int)) none = ds.drop k := by
  unfold cutD
  rw [HT.sIx_none, HT.sIx_nat, Nat.min_def]
  split
  · exact List.take_of_length_le (by rw [List.length_drop]; exact Nat.le_refl _)
  · rw [List.drop_of_length_le (Nat.le_refl _), List.drop_of_length_le (by omega)]
    simp
theorem ixN_nat {n k : Nat} (h : k < n) : ixN n (k : Int) = some k := by
  unfold ixN
  rw [if_pos (Int.natCast_nonneg k), if_pos (by omega)]
  rfl
theorem ixN_last {n : Nat} (h : 0 < n) : ixN n (-1) = some (n - 1) := by
  unfold ixN
  rw [if_neg (by decide), if_pos (by omega)]
  congr 1
  omega
theorem ix_t {ds : List D} {k : Nat} (h : k < ds.length) : dIx (.tuple ds) (.int (k : Nat)) = some ds[k] := by
  show (ixN ds.length (k : Int)).bind _ = _
  rw [ixN_nat h]
  exact List.getElem?_eq_getElem h
theorem ix_l {ds : List D} {k : Nat} (h : k < ds.length) : dIx (.list ds) (.int (k : Nat)) = some ds[k] := by
  show (ixN ds.length (k : Int)).bind _ = _
  rw [ixN_nat h]
  exact List.getElem?_eq_getElem h
theorem ix_last_t {ds : List D} (h : 0 < ds.length) : dIx (.tuple ds) (.int (-1)) = some ds[ds.length - 1] := by
  show (ixN ds.length (-1)).bind _ = _
  rw [ixN_last h]
  exact List.getElem?_eq_getElem (by omega)
theorem ix_last_l {ds : List D} (h : 0 < ds.length) : dIx (.list ds) (.int (-1)) = some ds[ds.length - 1] := by
  show (ixN ds.length (-1)).bind _ = _
  rw [ixN_last h]
  exact List.getElem?_eq_getElem (by omega)
theorem rOk_nat {n : Nat} (h : n ≤ 100000) : rOk (n : Int) = true := cl_iff.mpr ⟨by omega, by omega⟩
theorem rangeL_nat (n : Nat) : rangeL 0 (n : Int) = (List.range n).map fun i => .int (i : Nat) := by
  unfold rangeL
  rw [Int.sub_zero, Int.toNat_natCast]
  congr 1
  funext i
  rw [Int.zero_add]
theorem range_0 {n : Nat} (h : n ≤ 100000) : dR1 (.int (n : Nat)) = some ((List.range n).map fun i => .int (i : Nat)) := by
  show (if rOk (n : Int) = true then some (rangeL 0 (n : Int)) else none) = _
  rw [rOk_nat h, rangeL_nat]
  exact if_pos rfl
theorem enum_rg (n : Nat) (f : Nat → D) : enumD (.tuple ((List.range n).map f)) = some ((List.range n).map fun i => .tuple [.int (i : Nat), f i]) := by
  unfold enumD
  rw [iterD_t, Option.map_some]
  congr 1
  apply List.ext_getElem?
  intro i
  rw [List.getElem?_map, List.getElem?_zipIdx, List.getElem?_map, List.getElem?_map]
  by_cases h : i < n
  · rw [List.getElem?_range h]
    simp
  · rw [List.getElem?_eq_none (by simpa using h)]
    rfl
theorem enum_rgl (n : Nat) (f : Nat → D) : enumD (.list ((List.range n).map f)) = some ((List.range n).map fun i => .tuple [.int (i : Nat), f i]) := enum_rg n f
theorem zip_rg (n m : Nat) (f g : Nat → D) : zip2L ((List.range n).map f) ((List.range m).map g) = (List.range (min n m)).map fun i => .tuple [f i, g i] := by
  unfold zip2L
  apply List.ext_getElem?
  intro i
  rw [List.getElem?_map, List.getElem?_map]
  by_cases h : i < min n m
  · have h1 : i < n := by omega
    have h2 : i < m := by omega
    have e : (((List.range n).map f).zip ((List.range m).map g))[i]? = some (f i, g i) := by
      rw [List.getElem?_zip_eq_some, List.getElem?_map, List.getElem?_map, List.getElem?_range h1, List.getElem?_range h2]
      exact ⟨rfl, rfl⟩
    rw [e, List.getElem?_range h]
    rfl
  · rw [List.getElem?_eq_none (by simp; omega), List.getElem?_eq_none (by simp; omega)]
    rfl
/-- a loop that may end early -/
theorem forF_find {L R α : Type} {f : L → D → Option (Fl L L R)} {l : L} (enc : α → D) (good : α → Prop) (ok : R → Prop) : ∀ xs : List α, (∀ a ∈ xs, (good a ∧ f l (enc a) = some (.nx l)) ∨ (¬ good a ∧ ∃ z, ok z ∧ f l (enc a) = some (.rt z))) →
    ((∀ a ∈ xs, good a) ∧ forF f (xs.map enc) l = some (.nx l)) ∨ ((∃ a ∈ xs, ¬ good a) ∧ ∃ z, ok z ∧ forF f (xs.map enc) l = some (.rt z))
  | [], _ => .inl ⟨fun a h => (by cases h), rfl⟩
  | a :: r, h => by
    rcases h a List.mem_cons_self with ⟨h1, h2⟩ | ⟨h1, z, h2, h3⟩
    · have e : forF f ((a :: r).map enc) l = forF f (r.map enc) l := by
        show (f l (enc a)).bind _ = _
        rw [h2]
        rfl
      rcases forF_find enc good ok r fun b hb => h b (List.mem_cons_of_mem _ hb) with ⟨q1, q2⟩ | ⟨⟨b, hb, q1⟩, q2⟩
      · refine .inl ⟨fun b hb => ?_, by rw [e]; exact q2⟩
        rcases List.mem_cons.mp hb with rfl | hb
        · exact h1
        · exact q1 b hb
      · exact .inr ⟨⟨b, List.mem_cons_of_mem _ hb, q1⟩, by rw [e]; exact q2⟩
    · refine .inr ⟨⟨a, List.mem_cons_self, h1⟩, z, h2, ?_⟩
      show (f l (enc a)).bind _ = _
      rw [h3]
      rfl
/-- the greatest of those that count -/
theorem fold_max {α : Type} {c : α → Bool} {v : α → Int} (xs : List α) (h b : Int) : xs.foldl (fun h a => if c a then max h (v a) else h) h ≤ b ↔ h ≤ b ∧ ∀ a ∈ xs, c a = true → v a ≤ b := by
  induction xs generalizing h with
  | nil => simp
  | cons a r ih =>
    rw [List.foldl_cons, ih]
    simp only [List.mem_cons, forall_eq_or_imp]
    cases e : c a with
    | true =>
      rw [if_pos rfl, Int.max_le, and_assoc]
      simp
    | false => simp
theorem eq_of_le {x y : Int} (h : ∀ c, x ≤ c ↔ y ≤ c) : x = y := Int.le_antisymm ((h y).mpr (Int.le_refl _)) ((h x).mp (Int.le_refl _))
theorem sl_from1 (ds : List D) : slO dSl (some (.tuple ds)) (some (some 1)) (some none) = some (.tuple (ds.drop 1)) := by
  show some (PyData.tuple (cutD ds (some ((1 : Nat) : Int)) none)) = _
  rw [cut_from]
theorem sl_to (ds : List D) (k : Nat) : slO dSl (some (.tuple ds)) (some none) (some (some (k : Int))) = some (.tuple (ds.take k)) := by
  show some (PyData.tuple (cutD ds none (some (k : Int)))) = _
  rw [cut_to]
theorem sl_to_l (ds : List D) (k : Nat) : slO dSl (some (.list ds)) (some none) (some (some (k : Int))) = some (.list (ds.take k)) := by
  show some (PyData.list (cutD ds none (some (k : Int)))) = _
  rw [cut_to]
/-- a loop by an invariant -/
theorem forF_rel {L R : Type} {f : L → D → Option (Fl L L R)} (inv : Nat → L → Prop) : ∀ (xs : List D) (l : L) (k : Nat), inv k l → (∀ (i : Nat) (x : D) (l : L), xs[i]? = some x → inv (k + i) l → ∃ l', f l x = some (.nx l') ∧ inv (k + i + 1) l') → ∃ l', forF f xs l = some (.nx l') ∧ inv (k + xs.length) l'
  | [], l, k, h0, _ => ⟨l, rfl, h0⟩
  | x :: r, l, k, h0, h => by
    obtain ⟨l', h1, h2⟩ := h 0 x l rfl h0
    obtain ⟨l2, h3, h4⟩ := forF_rel inv r l' (k + 1) h2 fun i y l hi hl => by
      have z := h (i + 1) y l (by simpa using hi) (by rw [show k + (i + 1) = k + 1 + i by omega]; exact hl)
      rw [show k + (i + 1) = k + 1 + i by omega] at z
      exact z
    refine ⟨l2, ?_, by rw [List.length_cons, show k + (r.length + 1) = k + 1 + r.length by omega]; exact h4⟩
    show (f l x).bind _ = _
    rw [h1]
    exact h3
/-- a comprehension with effects, by an invariant -/
theorem lcX_rel {T P : Type} {pm : D → Option P} {mt : P → T → Option (Bool × T)} {me : P → T → Option (D × T)} (inv : Nat → T → Prop) (ok : D → Prop) : ∀ (xs : List D) (t : T) (k : Nat), inv k t → (∀ (i : Nat) (x : D) (t : T), xs[i]? = some x → inv (k + i) t → ∃ p, pm x = some p ∧ mt p t = some (true, t) ∧ ∃ d t', me p t = some (d, t') ∧ ok d ∧ inv (k + i + 1) t') →
    ∃ ds t', lcX pm mt me xs t = some (ds, t') ∧ ds.length = xs.length ∧ (∀ d ∈ ds, ok d) ∧ inv (k + xs.length) t'
  | [], t, k, h0, _ => ⟨[], t, rfl, rfl, fun d h => (by cases h), h0⟩
  | x :: r, t, k, h0, h => by
    obtain ⟨p, h1, h2, d, t', h3, h4, h5⟩ := h 0 x t rfl h0
    obtain ⟨ds, t2, h6, h7, h8, h9⟩ := lcX_rel (pm := pm) (mt := mt) (me := me) inv ok r t' (k + 1) h5 fun i y l hi hl => by
      have z := h (i + 1) y l (by simpa using hi) (by rw [show k + (i + 1) = k + 1 + i by omega]; exact hl)
      rw [show k + (i + 1) = k + 1 + i by omega] at z
      exact z
    refine ⟨d :: ds, t2, ?_, by rw [List.length_cons, List.length_cons, h7], fun z hz => ?_, by rw [List.length_cons, show k + (r.length + 1) = k + 1 + r.length by omega]; exact h9⟩
    · show ((pm x).bind fun p => (mt p t).bind fun q => if q.1 then (me p q.2).bind fun w => (lcX pm mt me r w.2).map fun z => (w.1 :: z.1, z.2) else lcX pm mt me r q.2) = _
      rw [h1, Option.bind_some, h2, Option.bind_some, if_pos rfl]
      show ((me p t).bind _) = _
      rw [h3, Option.bind_some]
      show (lcX pm mt me r t').map _ = _
      rw [h6]
      rfl
    · rcases List.mem_cons.mp hz with rfl | hz
      · exact h4
      · exact h8 z hz
end DL

set_option Elab.async false
set_option linter.all false
set_option maxRecDepth 100000
set_option maxHeartbeats 2000000
set_option autoImplicit false
namespace DL
open PySem PySem.Spec PyProof.Rows L2
/-! ### dicts: what is put in -/
def putD (kvs : List (D × D)) (k : Key) (d : D) : List (D × D) := if kvs.any (fun p => isK k p.1) then kvs.map (fun p => if isK k p.1 then (p.1, d) else p) else kvs ++ [(keyD k, d)]
def mergeD (kvs : List (D × D)) (more : List (Key × D)) : List (D × D) := more.foldl (fun acc p => putD acc p.1 p.2) kvs
theorem RpK.any {K : Fr_} {H : Hp} (k : Key) : ∀ {ws : List (Key × V)} {kvs : List (D × D)}, RpK K H ws kvs → (ws.any fun p => decide (p.1 = k)) = kvs.any fun p => isK k p.1
  | [], [], _ => rfl
  | [], _ :: _, h => by cases h.1
  | _ :: _, [], h => by cases h.1
  | (j, v) :: r, (q, d) :: r', ⟨h1, h2⟩ => by
    have hq : keyD j = q := (List.cons.inj h1).1
    subst hq
    cases h2 with
    | cons hv hr =>
      rw [List.any_cons, List.any_cons, RpK.any k (ws := r) (kvs := r') ⟨(List.cons.inj h1).2, hr⟩, isK_keyD]
theorem RpK.cons {K : Fr_} {H : Hp} {ws : List (Key × V)} {kvs : List (D × D)} {k : Key} {v : V} {d : D} (h : Rp K H v d) (r : RpK K H ws kvs) : RpK K H ((k, v) :: ws) ((keyD k, d) :: kvs) := ⟨by rw [List.map_cons, List.map_cons, r.1], .cons h r.2⟩
theorem RpK.repl {K : Fr_} {H : Hp} (k : Key) {v : V} {d : D} (h : Rp K H v d) : ∀ {ws : List (Key × V)} {kvs : List (D × D)}, RpK K H ws kvs → RpK K H (ws.map fun p => if p.1 = k then (p.1, v) else p) (kvs.map fun p => if isK k p.1 then (p.1, d) else p)
  | [], [], _ => ⟨rfl, .nil⟩
  | [], _ :: _, h => by cases h.1
  | _ :: _, [], h => by cases h.1
  | (j, w) :: r, (q, e) :: r', ⟨h1, h2⟩ => by
    have hq : keyD j = q := (List.cons.inj h1).1
    subst hq
    cases h2 with
    | cons hv hr =>
      have ih := RpK.repl k h (ws := r) (kvs := r') ⟨(List.cons.inj h1).2, hr⟩
      rw [List.map_cons, List.map_cons]
      by_cases e1 : j = k
      · rw [if_pos e1, if_pos (by rw [isK_keyD]; exact decide_eq_true e1)]
        exact ih.cons h
      · rw [if_neg e1, if_neg (by rw [isK_keyD]; simpa using e1)]
        exact ih.cons hv
theorem RpK.snoc {K : Fr_} {H : Hp} {ws : List (Key × V)} {kvs : List (D × D)} (k : Key) {v : V} {d : D} (h : Rp K H v d) (r : RpK K H ws kvs) : RpK K H (ws ++ [(k, v)]) (kvs ++ [(keyD k, d)]) := by
  refine ⟨by rw [List.map_append, List.map_append, r.1]; rfl, ?_⟩
  rw [List.map_append, List.map_append]
  exact r.2.append (.cons h .nil)
theorem RpK.put {K : Fr_} {H : Hp} {ws : List (Key × V)} {kvs : List (D × D)} (k : Key) {v : V} {d : D} (h : Rp K H v d) (r : RpK K H ws kvs) : RpK K H (putK ws k v) (putD kvs k d) := by
  unfold putK putD
  rw [r.any k]
  split
  · exact r.repl k h
  · exact r.snoc k h
theorem RpK.merge {K : Fr_} {H : Hp} : ∀ {ms : List (Key × V)} {es : List (Key × D)} {ws : List (Key × V)} {kvs : List (D × D)}, ms.map (·.1) = es.map (·.1) → RpA K H (ms.map (·.2)) (es.map (·.2)) → RpK K H ws kvs → RpK K H (mergeK ws ms) (mergeD kvs es)
  | [], [], _, _, _, _, r => r
  | [], _ :: _, _, _, h, _, _ => by cases h
  | _ :: _, [], _, _, h, _, _ => by cases h
  | (j, v) :: r, (q, d) :: r', ws, kvs, h1, h2, z => by
    have hq : j = q := (List.cons.inj h1).1
    subst hq
    cases h2 with
    | cons hv hr => exact RpK.merge (ms := r) (es := r') (List.cons.inj h1).2 hr (z.put j hv)
/-! ### a new dict -/
section
variable (X : Cx) (c : FC) (Γ : Env_)
def DD (e : Expr) (m : Option (List (D × D))) : Prop := ∀ kvs, m = some kvs → ∀ (σ : St) (H : Hp) (Q : VK), EnvOk X.K c σ H Γ → (∀ a H' ws, H a = none → Same H H' → H' a = some (.dK ws) → RpK X.K H' ws kvs → Q (.ref a) H') → sE X e σ H Q
def DXD {T : Type} (G : T → Env_) (e : Expr) (m : T → Option (List (D × D) × T)) : Prop := ∀ t kvs t', m t = some (kvs, t') → ∀ (σ : St) (H : Hp) (Q : VK), EnvOk X.K c σ H (G t) → (∀ a H' ws, H a = none → EnvOk X.K c σ H' (G t') → Step (G t) (G t') σ H H' → H' a = some (.dK ws) → RpK X.K H' ws kvs → Q (.ref a) H') → sE X e σ H Q
end
section
variable {X : Cx} {c : FC} {Γ : Env_}
theorem dxd_lift {T : Type} {G : T → Env_} {e : Expr} {m : T → Option (List (D × D))} (h : ∀ t, DD X c (G t) e (m t)) : DXD X c G e (liftX m) := fun t d t' hd σ H Q E k => by
  obtain ⟨e1, rfl⟩ := liftX_eq hd
  exact h _ d e1 σ H Q E fun a H' xs hn s ha r => k a H' xs hn (E.same s) (.of_same E s) ha r
theorem dxk_dct {T : Type} {G : T → Env_} {e : Expr} {m : T → Option (List (D × D) × T)} (h : DXD X c G e m) : DXK X c G .dct e m := fun t a t' hm σ H Q E k => h t a t' hm σ H Q E fun ad H' xs hn E' s ha r =>
  k _ H' E' s (Kd.dct_of ha r (fun o => E.notOwn hn (s.2 _ o)) (E.fresh0 hn)) fun _ b e => by cases e; exact hn
theorem DD.e {e : Expr} {m : Option (List (D × D))} (h : DD X c Γ e m) : DE X c Γ e (m.map .dict) := fun d hd σ H Q E k => by
  obtain ⟨ds, e1, rfl⟩ := Option.map_eq_some_iff.mp hd
  refine sE_of (pe_frz (pe_s e)) ?_
  refine h ds e1 σ H _ E fun a H' ws hn s ha r => ⟨a, _, rfl, ha, trivial, fun o => ?_⟩
  have m' : Mono H' (upd H' a (.frz o (.dK ws))) := by
    refine ⟨fun b zs hb => ?_, fun b o' u hb => ?_⟩
    · rw [upd_ne (ne_of hb ha (by intro z; cases z))]
      exact hb
    · rw [upd_ne (ne_of hb ha (by intro z; cases z))]
      exact hb
  refine k _ _ (fun b o' e' => ?_) (.dct ⟨o, upd_same⟩ r.1 (r.2.mono m'))
  rw [upd_ne (ne_of_none e' hn)]
  exact s b o' e'
theorem dd_new {pos : Pos} : DD X c Γ (.Dict [] [] pos) (some []) := fun d hd σ H Q E k => by
  cases hd
  exact sE_of pe_dnewK fun p hp => k p _ [] hp (Same.new hp) upd_same ⟨rfl, .nil⟩
/-! dict(..) of pairs -/
def pairD : D → Option (Key × D)
  | .tuple [k, v] => (keyOf k).map fun q => (q, v)
  | _ => none
def pairsD : List D → Option (List (Key × D))
  | [] => some []
  | d :: r => (pairD d).bind fun p => (pairsD r).map (p :: ·)
def dDict : List D → Option (List (D × D))
  | [.list ds] => (pairsD ds).map (mergeD [])
  | [.tuple ds] => if plainT then (pairsD ds).map (mergeD []) else none
  | _ => none
def CallDD (X : Cx) (f : Value) (g : List D → Option (List (D × D))) : Prop := CallR X f fun vs H Q => ∃ ds z, RpWA X.K H vs ds ∧ g ds = some z ∧ ∀ a H' ws, H a = none → Same H H' → H' a = some (.dK ws) → RpK X.K H' ws z → Q (.ref a) H'
theorem pairs_of2 {pins : List (Addr × Obj)} {σ : St} {H : Hp} {s : Shared} (I : Inv X pins σ H s) : ∀ {ps : List Addr} {kvs : List (Key × V)}, Paired (fun p kv => SqT X.K H p [kV kv.1, kv.2]) ps kvs →
    ∃ (prs : List (Key × Value)) (us : List (Value × Value)), KV kvs prs ∧ prs.length = ps.length ∧ us.length = ps.length ∧ (∀ (j : Nat) (u w : Value), us[j]? = some (u, w) → ∃ b, ps[j]? = some b ∧ s.heap.IsTuple b #[u, w]) ∧
      ∀ (j : Nat) (u w : Value), us[j]? = some (u, w) → ∃ k, prs[j]? = some (k, w) ∧ (mixKind X.prog X.w).is k u = true
  | _, _, .nil => ⟨[], [], .nil, rfl, rfl, fun j u w e => by simp at e, fun j u w e => by simp at e⟩
  | _, _, .cons (a := p) (b := kv) h t => by
    obtain ⟨prs, us, r, hl, hl2, hp, hq⟩ := pairs_of2 I t
    obtain ⟨its, rv, ht, _⟩ := I.tuple h
    obtain ⟨u, y, ei, ru, ry⟩ := vals2 rv
    subst ei
    refine ⟨(kv.1, y) :: prs, (u, y) :: us, .cons ⟨rfl, ry⟩ r, by rw [List.length_cons, List.length_cons, hl], by rw [List.length_cons, List.length_cons, hl2], fun j u' w' e => ?_, fun j u' w' e => ?_⟩
    · cases j with
      | zero =>
        have e' : (u, y) = (u', w') := Option.some.inj e
        cases e'
        exact ⟨p, rfl, ht⟩
      | succ j =>
        obtain ⟨b, e1, e2⟩ := hp j u' w' (by simpa using e)
        exact ⟨b, by simpa using e1, e2⟩
    · cases j with
      | zero =>
        have e' : (u, y) = (u', w') := Option.some.inj e
        cases e'
        exact ⟨kv.1, rfl, kV_is (P := X.prog) (w := X.w) ru⟩
      | succ j =>
        obtain ⟨b, e1, e2⟩ := hq j u' w' (by simpa using e)
        exact ⟨b, by simpa using e1, e2⟩
theorem plain_tup {pins : List (Addr × Obj)} {σ : St} {H : Hp} {s : Shared} {a : Addr} {xs : List V} {o : Obj} (I : Inv X pins σ H s) (hpt : plainT = true) (h : TupP X.K H a xs) (ho : s.heap.get? a = some o) : o.dict = none := by
  rcases h with ⟨u, h1, h2⟩ | ⟨_, o', its, n, h1, h2, h3, _⟩
  · rcases isPT_cases h1 with ⟨_, o', hd, rfl⟩ | ⟨hf, _⟩
    · obtain ⟨e, _⟩ := (show ObjOk X.prog X.w H s.heap a (.frz o' (.tup xs)) from I.hok a _ h2)
      rw [ho] at e
      cases e
      exact hd
    · rw [hpt] at hf
      cases hf
  · have e := I.kIn a o' h1
    rw [ho] at e
    cases e
    exact h3
theorem call_dictT (hcalm : X.calm = true) : CallR X (.type "dict") (fun xs H Q => ∃ (a : Addr) (ps : List Addr) (kvs : List (Key × V)), xs = [.ref a] ∧ (plainT = true ∧ TupP X.K H a (ps.map V.ref)) ∧ Paired (fun p kv => SqT X.K H p [kV kv.1, kv.2]) ps kvs ∧
    ∀ p, H p = none → Q (.ref p) (upd H p (.dK (mergeK [] kvs)))) := by
  intro pins s σ H xs us Q I r q
  obtain ⟨a, ps, kvs, ex, ⟨hpt, hqp⟩, hp, q⟩ := q
  have hq := hqp.sq
  subst ex
  obtain ⟨u, eu, rx⟩ := vals1 r
  subst eu
  cases rx
  obtain ⟨its, rv, pl, hz⟩ := I.tuple hq
  have ei := refs_at rv
  subst ei
  rw [List.length_map] at hz
  obtain ⟨prs, uws, rel, hl, hl2, hp1, hp2⟩ := pairs_of2 I hp
  have hit : PySem.PlainSeq "tuple" s.heap a (ps.map Value.ref).toArray := by
    obtain ⟨o, ho, hc, n, hdat⟩ := pl
    refine ⟨o, n, ho, hc, ?_, hdat⟩
    exact plain_tup I hpt hqp ho
  refine PySem.call_dict_pairs (knd := mixKind X.prog X.w) (kvs := prs) (PySem.PairArg.tuple a (ps.map Value.ref).toArray (fun j => ps.getD j 0) uws) (I.ok.hd hcalm) ⟨hit, by simp [hl2], fun j k v e => ?_⟩ ⟨by rw [hl, hl2], fun i key v e => hp2 i key v e⟩ (by rw [hl2]; exact hz) fun h' tk hd' k => ?_
  · obtain ⟨b, e1, e2⟩ := hp1 j k v e
    refine ⟨?_, .inl ?_⟩
    · simp [e1]
    · show s.heap.IsTuple (ps.getD j 0) #[k, v]
      rw [show ps.getD j 0 = b by simp [e1]]
      exact e2
  · have hm : (s.heap.objs.size == sysModules) = false := beq_eq_false_iff_ne.mpr (Nat.ne_of_gt I.big)
    have hlen : (mergeK [] kvs).length ≤ sizeLine := by
      refine Nat.le_trans (length_mergeK kvs []) ?_
      rw [List.length_nil, Nat.zero_add, rel.length, hl]
      exact hz
    exact ⟨.ref s.heap.objs.size, upd H s.heap.objs.size (.dK (mergeK [] kvs)), I.laid (t' := tk) (fun b o e => k b o (by simp) e) (Nat.le_refl _) (show ObjOk X.prog X.w _ _ _ (.dK (mergeK [] kvs)) from ⟨hlen, hm, merged [] prs, KV.merge rel .nil, hd'⟩), rfl, q _ (I.hok.fresh (Nat.le_refl _))⟩
theorem rp_pairs {K : Fr_} {H : Hp} : ∀ {xs : List V} {ds : List D} {prs : List (Key × D)}, RpA K H xs ds → pairsD ds = some prs → ∃ (ps : List Addr) (kvs : List (Key × V)), xs = ps.map V.ref ∧ Paired (fun p kv => SqT K H p [kV kv.1, kv.2]) ps kvs ∧ kvs.map (·.1) = prs.map (·.1) ∧ RpA K H (kvs.map (·.2)) (prs.map (·.2))
  | _, _, _, .nil, e => by
    cases e
    exact ⟨[], [], rfl, .nil, rfl, .nil⟩
  | _, _, _, .cons (d := d) h r, e => by
    obtain ⟨p, e1, e2⟩ := Option.bind_eq_some_iff.mp e
    obtain ⟨prs, e3, rfl⟩ := Option.map_eq_some_iff.mp e2
    obtain ⟨ps, kvs, rfl, h2, h3, h4⟩ := rp_pairs r e3
    unfold pairD at e1
    split at e1
    · rename_i kd vd
      obtain ⟨q, e4, rfl⟩ := Option.map_eq_some_iff.mp e1
      obtain ⟨a, ys, rfl, hq, rr⟩ := RpW.tuple (.st h)
      cases rr with
      | cons hk rr =>
        cases rr with
        | cons hv rr =>
          cases rr
          have := RpW.key (.st hk) e4
          subst this
          exact ⟨a :: ps, (q, _) :: kvs, rfl, .cons hq h2, by rw [List.map_cons, List.map_cons, h3], .cons hv h4⟩
    · cases e1
theorem cdd_dict (hcalm : X.calm = true) : CallDD X (.type "dict") dDict := CallR.imp (CallR.or (call_dictP hcalm) (call_dictT hcalm)) fun vs H Q ⟨ds, z, h, e, k⟩ => by
  have fin : ∀ {prs : List (Key × D)} {kvs : List (Key × V)}, kvs.map (·.1) = prs.map (·.1) → RpA X.K H (kvs.map (·.2)) (prs.map (·.2)) → z = mergeD [] prs → ∀ a, H a = none → Q (.ref a) (upd H a (.dK (mergeK [] kvs))) := fun {prs kvs} hk hv ez a ha => by
    subst ez
    exact k a _ _ ha (Same.new ha) upd_same (RpK.mono (.of_same (Same.new ha)) (RpK.merge hk hv ⟨rfl, .nil⟩))
  unfold dDict at e
  split at e
  · obtain ⟨prs, e3, rfl⟩ := Option.map_eq_some_iff.mp e
    obtain ⟨v, rfl, h1⟩ := h.one
    obtain ⟨p, xs, rfl, hq, r⟩ := h1.list
    obtain ⟨ps, kvs, rfl, hp, hk, hv⟩ := rp_pairs r e3
    exact .inl ⟨p, ps, kvs, rfl, hq, hp, fin hk hv rfl⟩
  · split at e
    · rename_i hpt
      obtain ⟨prs, e3, rfl⟩ := Option.map_eq_some_iff.mp e
      obtain ⟨v, rfl, h1⟩ := h.one
      obtain ⟨p, xs, rfl, hq, r⟩ := h1.tupleP
      obtain ⟨ps, kvs, rfl, hp, hk, hv⟩ := rp_pairs r e3
      exact .inr ⟨p, ps, kvs, rfl, ⟨hpt, hq⟩, hp, fin hk hv rfl⟩
    · cases e
  · cases e
theorem dd_callT {x : Str} {id : String} {g : List D → Option (List (D × D))} {e : Expr} {es : List Expr} {m : Option (List D)} {p pos : Pos} (hc : CallDD X (.type id) g) (hm : X.mg x = none) (ha : DAw X c Γ (e :: es) m) (hg : Gl X x := by rfl) (hv : bootBuiltins x = some (.type id) := by decide +kernel)
    (hs : NoStar X (e :: es) := by exact ⟨rfl, rfl, rfl, rfl, trivial⟩) (hn : x ≠ "__name__" := by decide) (hdb : (x == ("__debug__" : Str)) = false := by decide) (hpl : (backTo pos (starEach es X.env)).any (·.1) = false := by rfl) : DD X c Γ (.Call (.Name x p) (e :: es) [] pos) (m.bind g) := fun d hd σ H Q E k => by
  obtain ⟨ds, e1, e2⟩ := Option.bind_eq_some_iff.mp hd
  refine sE_of (pe_callTy hc hg hm hv (pa_s hs) hn hdb hs.1 hpl) ?_
  exact ha ds e1 σ H _ E fun vs H1 s1 r1 => ⟨ds, d, r1, e2, fun a H2 xs hn s2 h2 r2 => k a H2 xs (s1.free hn) (s1.trans s2) h2 r2⟩
/-! a dict that a slot holds -/
theorem dw_dct (i : Nat) {kvs : List (D × D)} {x : Str} {pos : Pos} (h : Γ[i]? = some (.dct kvs) := by rfl) (hN : X.N[i]? = some x := by rfl) (hv : Vis X.env.scope x := by first | exact Or.inl rfl | exact Or.inr (Or.inl rfl) | exact Or.inr (Or.inr rfl)) (hd : (x == ("__debug__" : Str)) = false := by decide)
    (hcd : (x == ("__classdict__" : Str)) = false := by decide) : DW X c Γ (.Name x pos) (some (.dict kvs)) := fun d' hd' σ H Q E k => by
  cases hd'
  obtain ⟨a, xs, e, ha, r⟩ := E.cells i _ h
  exact sE_of (pe_var hN hv hd hcd) ⟨_, e, k _ H (Same.refl H) (.od ha r)⟩
/-! d.get(k), d.get(k, x) -/
def dGet1 : D → D → Option D
  | .dict kvs, k => (keyOf k).map fun q => (getK kvs q).getD .none
  | _, _ => none
def dGet2 : D → D → D → Option D
  | .dict kvs, k, x => (keyOf k).map fun q => (getK kvs q).getD x
  | _, _, _ => none
theorem Rd.same {H H' : Hp} {a : Addr} {u : HO} (s : Same H H') (h : Rd H a u) : Rd H' a u := by
  rcases h with h | ⟨o, h⟩
  · exact .inl (s _ _ h)
  · exact .inr ⟨o, s _ _ h⟩
theorem de_dget1 {o e : Expr} {mo me : Option D} {apos cpos : Pos} (hu : X.A.units + 100 < cLine) (ho : DW X c Γ o mo) (he : DE X c Γ e me) (m : M1 X o "get" apos e cpos := by exact ⟨rfl, rfl, rfl, rfl⟩) : DE X c Γ (.Call (.Attribute o "get" apos) [e] [] cpos) (bin dGet1 mo me) := fun d hd σ H Q E k => by
  obtain ⟨x, e1, e2⟩ := Option.bind_eq_some_iff.mp hd
  obtain ⟨y, e3, e4⟩ := Option.bind_eq_some_iff.mp e2
  unfold dGet1 at e4
  split at e4
  · rename_i kvs
    obtain ⟨q, e5, rfl⟩ := Option.map_eq_some_iff.mp e4
    refine sE_of (pe_dget1 (by omega) (pe_s o) (pe_s e) m) (ho _ e1 σ H _ E fun v H1 s1 r1 => ?_)
    obtain ⟨a, ws, rfl, hd, r⟩ := r1.dict
    refine ⟨a, rfl, .inl ⟨ws, hd⟩, he y e3 σ H1 _ (E.same s1) fun u H2 s2 r2 => ⟨_, .inl ⟨ws, q, Rd.same s2 hd, RpW.key (.st r2) e5, rfl⟩, ?_⟩⟩
    have r' : RpK X.K H2 ws kvs := r.mono (.of_same s2)
    rcases r'.get q with ⟨h1, h2⟩ | ⟨w, d, h1, h2, h3⟩
    · rw [h1]
      exact k _ H2 (s1.trans s2) (by rw [h2]; exact .non)
    · rw [h1]
      exact k _ H2 (s1.trans s2) (by rw [h2]; exact h3)
  · cases e4
theorem de_dget2 {o e f : Expr} {mo me mf : Option D} {apos cpos : Pos} (hu : X.A.units + 100 < cLine) (ho : DW X c Γ o mo) (he : DE X c Γ e me) (hf : DE X c Γ f mf) (m : M2 X o "get" apos e f cpos := by exact ⟨rfl, rfl, rfl, rfl⟩) : DE X c Γ (.Call (.Attribute o "get" apos) [e, f] [] cpos) (mo.bind fun x => me.bind fun y => mf.bind fun z => dGet2 x y z) := fun d hd σ H Q E k => by
  obtain ⟨x, e1, e2⟩ := Option.bind_eq_some_iff.mp hd
  obtain ⟨y, e3, e4⟩ := Option.bind_eq_some_iff.mp e2
  obtain ⟨z, e6, e7⟩ := Option.bind_eq_some_iff.mp e4
  unfold dGet2 at e7
  split at e7
  · rename_i kvs
    obtain ⟨q, e5, rfl⟩ := Option.map_eq_some_iff.mp e7
    refine sE_of (pe_dget2 (by omega) (pe_s o) (pe_s e) (pe_s f) m) (ho _ e1 σ H _ E fun v H1 s1 r1 => ?_)
    obtain ⟨a, ws, rfl, hd, r⟩ := r1.dict
    refine ⟨a, rfl, .inl ⟨ws, hd⟩, he y e3 σ H1 _ (E.same s1) fun u H2 s2 r2 => hf z e6 σ H2 _ ((E.same s1).same s2) fun u3 H3 s3 r3 => ⟨_, .inl ⟨ws, q, Rd.same s3 (Rd.same s2 hd), RpW.key (.st r2) e5, rfl⟩, ?_⟩⟩
    have r' : RpK X.K H3 ws kvs := (r.mono (.of_same s2)).mono (.of_same s3)
    rcases r'.get q with ⟨h1, h2⟩ | ⟨w, d, h1, h2, h3⟩
    · rw [h1]
      exact k _ H3 ((s1.trans s2).trans s3) (by rw [h2]; exact r3)
    · rw [h1]
      exact k _ H3 ((s1.trans s2).trans s3) (by rw [h2]; exact h3)
  · cases e7
end
end DL

set_option Elab.async false
set_option linter.all false
set_option maxRecDepth 100000
set_option maxHeartbeats 2000000
set_option autoImplicit false
namespace DL
open PySem PySem.Spec PyProof.Rows L2
/-! ### xs[::-1] -/
section
variable {X : Cx} {c : FC} {Γ : Env_}
def revL : D → Option (List D)
  | .list ds => some ds.reverse
  | _ => none
def revT : D → Option D
  | .tuple ds => if ds.length ≤ 100000 then some (.tuple ds.reverse) else none
  | _ => none
theorem RpA.reverse {K : Fr_} {H : Hp} : ∀ {xs : List V} {ds : List D}, RpA K H xs ds → RpA K H xs.reverse ds.reverse
  | _, _, .nil => .nil
  | _, _, .cons h r => by
    rw [List.reverse_cons, List.reverse_cons]
    exact (RpA.reverse r).snoc h
theorem df_revL {a : Expr} {m : Option D} {k : Nat} {p1 p2 p3 pos : Pos} (h : DW X c Γ a m) : DF X c Γ (.Subscript a (.Slice none none (some (.UnaryOp .USub (.Constant (.int 1) k p1) p2)) p3) pos) (m.bind revL) := fun d hd σ H Q E kq => by
  obtain ⟨x, e1, e2⟩ := Option.bind_eq_some_iff.mp hd
  unfold revL at e2
  split at e2
  · cases e2
    refine sE_of (pe_revL (pe_s a)) (h _ e1 σ H _ E fun v H1 s1 r1 => ?_)
    obtain ⟨b, xs, rfl, hq, r⟩ := r1.list
    exact ⟨b, xs, rfl, hq, fun p hp => kq p _ _ (s1.free hp) (s1.trans (Same.new hp)) upd_same (r.reverse.mono (.of_same (Same.new hp)))⟩
  · cases e2
theorem fm_congr {α β : Type} {f g : α → Option β} : ∀ {l : List α}, (∀ a ∈ l, f a = g a) → l.filterMap f = l.filterMap g
  | [], _ => rfl
  | a :: r, h => by
    rw [List.filterMap_cons, List.filterMap_cons, h a List.mem_cons_self, fm_congr fun b hb => h b (List.mem_cons_of_mem _ hb)]
theorem rev_pick (xs : Array Value) : ((List.range xs.size).filterMap fun (m : Nat) => xs[(((xs.size : Int) - 1) + (m : Int) * (-1)).toNat]?).toArray = xs.toList.reverse.toArray := by
  have e : (List.range xs.size).filterMap (fun (m : Nat) => xs[(((xs.size : Int) - 1) + (m : Int) * (-1)).toNat]?) = ((List.range xs.size).map fun m => xs.size - 1 - m).filterMap (xs[·]?) := by
    rw [List.filterMap_map]
    refine fm_congr fun m hm => ?_
    have := List.mem_range.mp hm
    have e2 : (((xs.size : Int) - 1) + (m : Int) * (-1)).toNat = xs.size - 1 - m := by omega
    show xs[_]? = xs[_]?
    rw [e2]
  rw [e, PySem.W.krv_range, List.filterMap_reverse, PySem.W.krv_all]
section
variable {prog : Program} {w : World} {A : Around} {E : Value → Shared → Prop} {s : Shared}
theorem sliceApplied_rev {sl : Addr} {vl vu vs : Value} {n : Nat} {Q : Int × Int × Nat → Shared → Prop} (hs : s.heap.IsSliceOf sl vl vu vs) (pl : IsPart vl none) (pu : IsPart vu none) (ps : IsPart vs (some (-1)))
    (h : Q ((n : Int) - 1, -1, n) s) : wpAny (model prog w) A (Builtin.Slice.sliceApplied (.ref sl) (pure (n : Int))) Q E s := by
  obtain ⟨os, hos, hcs, hds⟩ := id hs
  unfold Builtin.Slice.sliceApplied Builtin.Slice.sliceFields
  refine wpAny_bind (wpAny_bind (wpAny_field hos hds (x := vl) rfl (wpAny_bind (wpAny_field hos hds (x := vu) rfl (wpAny_bind (wpAny_field hos hds (x := vs) rfl (wpAny_pure ?_)))))))
  refine wpAny_bind (HT.slicePart_ ps ?_)
  show wpAny _ _ (if ((-1 : Int) == 0) = true then _ else _) _ _ s
  rw [if_neg (by decide)]
  refine wpAny_bind (HT.slicePart_ pl (wpAny_bind (HT.slicePart_ pu (wpAny_bind (wpAny_pure ?_)))))
  show wpAny _ _ (match Builtin.Slice.sliceAdjust none none (-1) (n : Int) with | (lo, hi) => pure (lo, (-1 : Int), Builtin.Slice.slicePlaces lo hi (-1))) _ _ s
  have e1 : Builtin.Slice.sliceAdjust none none (-1) (n : Int) = ((n : Int) - 1, -1) := rfl
  rw [e1]
  show wpAny _ _ (pure ((n : Int) - 1, (-1 : Int), Builtin.Slice.slicePlaces ((n : Int) - 1) (-1) (-1))) _ _ s
  have e2 : Builtin.Slice.slicePlaces ((n : Int) - 1) (-1) (-1) = n := by
    unfold Builtin.Slice.slicePlaces
    rw [if_neg (by decide)]
    by_cases h0 : n = 0
    · subst h0
      rfl
    · rw [if_pos (by omega), show (- -1 : Int) = 1 by decide, Int.ediv_one]
      omega
  rw [e2]
  exact wpAny_pure h
theorem getItem_tuple_rev {t sl : Addr} {items : Array Value} {vl vu vs : Value} {Q : Value → Shared → Prop} (ht : IsTup s.heap t items) (hs : s.heap.IsSliceOf sl vl vu vs) (pl : IsPart vl none) (pu : IsPart vu none) (ps : IsPart vs (some (-1)))
    (h : Q (.ref s.heap.objs.size) { s with heap := s.heap.push { cls := .type "tuple", data := .seq items.toList.reverse.toArray } })
    (hsz : items.size ≤ sizeLine) : wpAny (model prog w) A (getItem (.ref t) (.ref sl)) Q E s := by
  have htake : sizeOk (.seq items.toList.reverse.toArray) := by
    show items.toList.reverse.toArray.size ≤ sizeLine
    rw [List.size_toArray, List.length_reverse, Array.length_toList]
    exact hsz
  obtain ⟨os, hos, hcs, hds⟩ := id hs
  have hTs : s.TypeIs (.ref sl) "slice" := ⟨os, hos, hcs⟩
  unfold getItem
  try with_reducible refine wpAny_holding ?_
  first | refine wpAny_bind (wpAny_pure ?_) | skip
  refine wpAny_bind (wpAny_sequenceKey ht.typeIs (by decide) ?_)
  refine wpAny_bind (wpAny_callSpecial?_slot (name := Str.ofString "__getitem__") ht.typeIs PyProof.Rows.slot_tuple_getitem
    (wpAny_call_entry PyProof.Rows.slot_tuple_getitem ht.typeIs PyProof.Rows.entry_tuple_getitem ?_ (PyProof.Rows.args_tuple_getitem _ _)))
  show wpAny _ _ (Builtin.Tuple.tupleItemsOf (.ref t) >>= _) _ _ s
  refine wpAny_bind (PyProof.Rows.tupleItemsOf_ ht ?_)
  refine wpAny_bind (wpAny_typeOf hTs ?_)
  rw [if_pos (by decide)]
  refine wpAny_bind (sliceApplied_rev hs pl pu ps ?_)
  have hno : ¬ ((((items.size : Int) - 1) == 0 && (-1 : Int) == 1 && items.size == items.size) = true) := by
    intro q
    rw [Bool.and_eq_true, Bool.and_eq_true] at q
    exact absurd q.1.2 (by decide)
  show wpAny _ _ (if (((items.size : Int) - 1) == 0 && (-1 : Int) == 1 && items.size == items.size) = true then _ else _) _ _ s
  rw [if_neg hno, rev_pick]
  first
    | exact wpAny_bind (m := Builtin.Tuple.tupleExact _) (wpAny_newObj_type (wpAny_pure ⟨_, rfl, wpAny_pure h⟩) htake)
    | exact wpAny_bind (m := Builtin.Tuple.tupleExact _) (wpAny_newObj_type (wpAny_bind (wpAny_pure (wpAny_pure ⟨_, rfl, wpAny_pure h⟩))) htake)
    | exact wpAny_bind (wpAny_bind (m := Builtin.Tuple.tupleExact _) (wpAny_newObj_type (wpAny_pure (wpAny_pure ⟨_, rfl, wpAny_pure h⟩)) htake))
    | exact wpAny_bind (wpAny_bind (m := Builtin.Tuple.tupleExact _) (wpAny_newObj_type (wpAny_pure ⟨_, rfl, wpAny_pure h⟩) htake))
end
def tRevT (K : PySem.W.Frag) (te : TE) : TE := fun σ H Q => te σ H fun x H1 => ∃ a xs, x = .ref a ∧ SqT K H1 a xs ∧ ∀ p u, H1 p = none → isPT u xs.reverse → Q (.ref p) (upd H1 p u)
theorem pe_revT {e : Expr} {te : TE} {k : Nat} {p1 p2 p3 pos : Pos} (he : PE X e te) : PE X (.Subscript e (.Slice none none (some (.UnaryOp .USub (.Constant (.int 1) k p1) p2)) p3) pos) (tRevT X.K te) := by
  refine ⟨fun pins s σ H Q I h => ?_⟩
  refine Subscript_ (thn (he.run pins s σ H _ I h) fun v s1 ⟨x, H1, I1, r1, q1⟩ => ?_)
  obtain ⟨a, xs, ex, hx, q⟩ := q1
  subst ex
  cases r1
  have hst : PO X (some (.UnaryOp .USub (.Constant (.int 1) k p1) p2)) (tPart (tUn (rU fun i => .int (-i)) (tC (.int 1)))) := po_some (pe_un un_neg pe_int)
  refine wpAny_Slice (thn (po_none.run pins s1 σ H1 (fun o H2 => o = none ∧ H2 = H1) I1 ⟨rfl, rfl⟩) fun vl s2 ⟨l, H2, I2, pl, el, e2⟩ => ?_)
  subst el e2
  refine thn (po_none.run pins s2 σ H2 (fun o H3 => o = none ∧ H3 = H2) I2 ⟨rfl, rfl⟩) fun vu s3 ⟨u, H3, I3, pu, eu, e3⟩ => ?_
  subst eu e3
  refine thn (hst.run pins s3 σ H3 (fun o H4 => o = some (-1) ∧ H4 = H3) I3 ⟨1, rfl, -1, rfl, rfl, rfl⟩) fun vs s4 ⟨o, H4, I4, ps, eo, e4⟩ => ?_
  subst eo e4
  have I5 : Inv X pins σ H4 { s4 with heap := s4.heap.push { cls := .type "slice", data := .fields #[vl, vu, vs] } } := I4.kept (t' := s4.toks) fun b ob q => Heap.get?_push_of_some _ q
  obtain ⟨its, r, ht, hz⟩ := I5.tuple hx
  have hlen := r.length
  show wpAny (model X.prog X.w) X.A (subscriptTail e (.Slice none none (some (.UnaryOp .USub (.Constant (.int 1) k p1) p2)) p3) (.ref a) (.ref s4.heap.objs.size)) (EP X pins σ Q) X.xe { s4 with heap := s4.heap.push { cls := .type "slice", data := .fields #[vl, vu, vs] } }
  refine tail_any (ops := [.ref a, .ref s4.heap.objs.size]) ht.typeIs PyProof.Rows.slot_tuple_getitem.lookup ?_ (by with_unfolding_all rfl)
  refine getItem_tuple_rev ht (Heap.IsSliceOf.new _ vl vu vs) pl pu ps ?_ (by rw [List.size_toArray]; omega)
  obtain ⟨u, hu, hu2⟩ := isPT_any (o := { cls := .type "tuple", data := .seq its.toArray.toList.reverse.toArray }) xs.reverse rfl
  refine ⟨.ref _, _, I5.laid (t' := s4.toks) (o := u) (fun b ob q => Heap.get?_push_of_some _ q) (Nat.le_refl _) (isPT_ok hu2 ?_ ?_), rfl, q _ _ (I5.hok.fresh (Nat.le_refl _)) hu⟩
  · exact Heap.get?_push_size _ rfl
  · exact ⟨by rw [List.length_reverse]; exact hz, _, r.reverse, IsTup.new _ _⟩
theorem de_revT {a : Expr} {m : Option D} {k : Nat} {p1 p2 p3 pos : Pos} (h : DE X c Γ a m) : DE X c Γ (.Subscript a (.Slice none none (some (.UnaryOp .USub (.Constant (.int 1) k p1) p2)) p3) pos) (m.bind revT) := fun d hd σ H Q E kq => by
  obtain ⟨x, e1, e2⟩ := Option.bind_eq_some_iff.mp hd
  unfold revT at e2
  split at e2
  · split at e2
    · cases e2
      refine sE_of (pe_revT (pe_s a)) (h _ e1 σ H _ E fun v H1 s1 r1 => ?_)
      obtain ⟨b, xs, rfl, hq, r⟩ := RpW.tuple (.st r1)
      exact ⟨b, xs, rfl, hq, fun p u hp hu => kq _ _ (s1.trans (Same.new hp)) (.tup (.of hu upd_same) (r.reverse.mono (.of_same (Same.new hp))))⟩
    · cases e2
  · cases e2
end
end DL

set_option Elab.async false
set_option linter.all false
set_option maxRecDepth 100000
set_option maxHeartbeats 2000000
set_option autoImplicit false
namespace DL
open PySem PySem.Spec PyProof.Rows L2
/-! ### more plain facts about the mirrors' parts -/
@[simp] theorem dIx_t0 (x : D) (r : List D) : dIx (.tuple (x :: r)) (.int 0) = some x := by
  show atI (x :: r) (0 : Int) = _
  unfold atI
  rw [show ixN (x :: r).length (0 : Int) = some 0 from ixN_nat (k := 0) (by simp)]
  rfl
@[simp] theorem dIx_t1 (x y : D) (r : List D) : dIx (.tuple (x :: y :: r)) (.int 1) = some y := by
  show atI (x :: y :: r) (1 : Int) = _
  unfold atI
  rw [show ixN (x :: y :: r).length (1 : Int) = some 1 from ixN_nat (k := 1) (by simp)]
  rfl
@[simp] theorem dIx_t2 (x y z : D) (r : List D) : dIx (.tuple (x :: y :: z :: r)) (.int 2) = some z := by
  show atI (x :: y :: z :: r) (2 : Int) = _
  unfold atI
  rw [show ixN (x :: y :: z :: r).length (2 : Int) = some 2 from ixN_nat (k := 2) (by simp)]
  rfl
@[simp] theorem dIx_t3 (x y z w : D) (r : List D) : dIx (.tuple (x :: y :: z :: w :: r)) (.int 3) = some w := by
  show atI (x :: y :: z :: w :: r) (3 : Int) = _
  unfold atI
  rw [show ixN (x :: y :: z :: w :: r).length (3 : Int) = some 3 from ixN_nat (k := 3) (by simp)]
  rfl
@[simp] theorem dIx_l0 (x : D) (r : List D) : dIx (.list (x :: r)) (.int 0) = some x := by
  show atI (x :: r) (0 : Int) = _
  unfold atI
  rw [show ixN (x :: r).length (0 : Int) = some 0 from ixN_nat (k := 0) (by simp)]
  rfl
@[simp] theorem dIx_l1 (x y : D) (r : List D) : dIx (.list (x :: y :: r)) (.int 1) = some y := by
  show atI (x :: y :: r) (1 : Int) = _
  unfold atI
  rw [show ixN (x :: y :: r).length (1 : Int) = some 1 from ixN_nat (k := 1) (by simp)]
  rfl
@[simp] theorem dIx_l2 (x y z : D) (r : List D) : dIx (.list (x :: y :: z :: r)) (.int 2) = some z := by
  show atI (x :: y :: z :: r) (2 : Int) = _
  unfold atI
  rw [show ixN (x :: y :: z :: r).length (2 : Int) = some 2 from ixN_nat (k := 2) (by simp)]
  rfl
theorem ixN_m1 (n : Nat) : ixN (n + 1) (-1) = some n := by rw [ixN_last (by omega)]; rfl
theorem atI_last {α : Type} (r : List α) (x : α) : atI (r ++ [x]) (-1) = some x := by
  unfold atI
  rw [show ixN (r ++ [x]).length (-1) = some r.length by rw [List.length_append]; exact ixN_m1 _]
  simp
@[simp] theorem dIx_last_l (r : List D) (x : D) : dIx (.list (r ++ [x])) (.int (-1)) = some x := atI_last r x
@[simp] theorem dIx_last_t (r : List D) (x : D) : dIx (.tuple (r ++ [x])) (.int (-1)) = some x := atI_last r x
@[simp] theorem dTuple_l (xs : List D) : dTuple [.list xs] = some (.tuple xs) := rfl
@[simp] theorem dTuple_t (xs : List D) : dTuple [.tuple xs] = some (.tuple xs) := rfl
@[simp] theorem dList_l (xs : List D) : dList [.list xs] = some xs := rfl
@[simp] theorem dList_t (xs : List D) : dList [.tuple xs] = some xs := rfl
@[simp] theorem dInt_i (x : Int) : dInt [.int x] = some (.int x) := rfl
@[simp] theorem dInt_b (x : Bool) : dInt [.bool x] = some (.int (if x then 1 else 0)) := rfl
@[simp] theorem dIs_n (x : D) : dIs x .none = some (.bool (isN x)) := by cases x <;> rfl
@[simp] theorem dIsNot_n (x : D) : dIsNot x .none = some (.bool (!isN x)) := by cases x <;> rfl
@[simp] theorem dIs_bb (a b : Bool) : dIs (.bool a) (.bool b) = some (.bool (decide (a = b))) := rfl
@[simp] theorem dIsNot_bb (a b : Bool) : dIsNot (.bool a) (.bool b) = some (.bool (!decide (a = b))) := rfl
@[simp] theorem isN_none : isN .none = true := rfl
@[simp] theorem isN_int (x : Int) : isN (.int x) = false := rfl
@[simp] theorem isN_str (x : Str) : isN (.str x) = false := rfl
@[simp] theorem isN_bool (x : Bool) : isN (.bool x) = false := rfl
@[simp] theorem isN_tuple (x : List D) : isN (.tuple x) = false := rfl
@[simp] theorem isN_list (x : List D) : isN (.list x) = false := rfl
@[simp] theorem isi_int_i (x : Int) : dIsi "int" (.int x) = some (.bool true) := rfl
@[simp] theorem isi_int_b (x : Bool) : dIsi "int" (.bool x) = some (.bool true) := rfl
@[simp] theorem isi_int_t (x : List D) : dIsi "int" (.tuple x) = some (.bool false) := rfl
@[simp] theorem isi_int_s (x : Str) : dIsi "int" (.str x) = some (.bool false) := rfl
@[simp] theorem isi_int_n : dIsi "int" .none = some (.bool false) := rfl
@[simp] theorem isi_bool_i (x : Int) : dIsi "bool" (.int x) = some (.bool false) := rfl
@[simp] theorem isi_bool_b (x : Bool) : dIsi "bool" (.bool x) = some (.bool true) := rfl
@[simp] theorem isi_tuple_t (x : List D) : dIsi "tuple" (.tuple x) = some (.bool true) := rfl
@[simp] theorem isi_tuple_l (x : List D) : dIsi "tuple" (.list x) = some (.bool false) := rfl
@[simp] theorem isi_tuple_i (x : Int) : dIsi "tuple" (.int x) = some (.bool false) := rfl
@[simp] theorem isi_str_s (x : Str) : dIsi "str" (.str x) = some (.bool true) := rfl
@[simp] theorem isi_str_i (x : Int) : dIsi "str" (.int x) = some (.bool false) := rfl
@[simp] theorem isi_str_t (x : List D) : dIsi "str" (.tuple x) = some (.bool false) := rfl
@[simp] theorem iterS_l (ds : List D) : iterS (.list ds) = some ds := rfl
@[simp] theorem iterS_t (ds : List D) : iterS (.tuple ds) = some ds := rfl
@[simp] theorem iterS_s (z : Str) : iterS (.str z) = some (z.cps.toList.map fun ch => .str ⟨#[ch]⟩) := rfl
@[simp] theorem iterS_d (kvs : List (D × D)) : iterS (.dict kvs) = some (kvs.map (·.1)) := rfl
@[simp] theorem iterT_l (ds : List D) : iterT (.list ds) = some ds := rfl
@[simp] theorem iterT_t (ds : List D) : iterT (.tuple ds) = some ds := rfl
@[simp] theorem seqD_l (x : List D) : seqD (.list x) = some x := rfl
@[simp] theorem seqD_t (x : List D) : seqD (.tuple x) = some x := rfl
@[simp] theorem dSl_t (lo hi : Option Int) (ds : List D) : dSl lo hi (.tuple ds) = some (.tuple (cutD ds lo hi)) := rfl
@[simp] theorem dSl_l (lo hi : Option Int) (ds : List D) : dSl lo hi (.list ds) = some (.list (cutD ds lo hi)) := rfl
@[simp] theorem dSlL_l (lo hi : Option Int) (ds : List D) : dSlL lo hi (.list ds) = some (cutD ds lo hi) := rfl
@[simp] theorem dSlT_t (lo hi : Option Int) (ds : List D) : dSlT lo hi (.tuple ds) = some (.tuple (cutD ds lo hi)) := rfl
@[simp] theorem slO_s (g : Option Int → Option Int → D → Option D) (x : D) (l h : Option Int) : slO g (some x) (some l) (some h) = g l h x := rfl
@[simp] theorem slF_s (x : D) (l h : Option Int) : slF (some x) (some l) (some h) = dSlL l h x := rfl
@[simp] theorem plusF_s (x y : D) : plusF (some x) (some y) = dPlusL x y := rfl
@[simp] theorem cut_from1 {α : Type} (ds : List α) : cutD ds (some 1) none = ds.drop 1 := cut_from ds 1
@[simp] theorem cut_from2 {α : Type} (ds : List α) : cutD ds (some 2) none = ds.drop 2 := cut_from ds 2
@[simp] theorem cut_to1 {α : Type} (ds : List α) : cutD ds none (some 1) = ds.take 1 := cut_to ds 1
@[simp] theorem cut_to2 {α : Type} (ds : List α) : cutD ds none (some 2) = ds.take 2 := cut_to ds 2
@[simp] theorem cut_to3 {α : Type} (ds : List α) : cutD ds none (some 3) = ds.take 3 := cut_to ds 3
@[simp] theorem cut_m1 {α : Type} (ds : List α) : cutD ds none (some (-1)) = ds.dropLast := by
  unfold cutD HT.sIx
  simp [List.dropLast_eq_take]
  congr 1
  omega
@[simp] theorem dZip2_tt (xs ys : List D) : dZip2 [.tuple xs, .tuple ys] = some (zip2L xs ys) := rfl
@[simp] theorem dZip2_ll (xs ys : List D) : dZip2 [.list xs, .list ys] = some (zip2L xs ys) := rfl
@[simp] theorem dZip2_tl (xs ys : List D) : dZip2 [.tuple xs, .list ys] = some (zip2L xs ys) := rfl
@[simp] theorem dZip2_lt (xs ys : List D) : dZip2 [.list xs, .tuple ys] = some (zip2L xs ys) := rfl
@[simp] theorem zip2L_nil (ys : List D) : zip2L [] ys = [] := rfl
@[simp] theorem zip2L_nil' (ys : List D) : zip2L ys [] = [] := by simp [zip2L]
@[simp] theorem zip2L_cons (x y : D) (xs ys : List D) : zip2L (x :: xs) (y :: ys) = .tuple [x, y] :: zip2L xs ys := rfl
theorem lt_str (a b : Str) : PySem.W.dataLt (.str a) (.str b) = decide (a.cps.toList < b.cps.toList) := PySem.W.dataLt_str a b
@[simp] theorem dLt_ss (a b : Str) : dLt (.str a) (.str b) = some (.bool (decide (a.cps.toList < b.cps.toList))) := by
  unfold dLt
  rw [show ordOk (.str a) (.str b) = true from rfl, if_pos rfl, lt_str]
/-- rows that rise -/
theorem rise_lc : ∀ (x : D) (r : List D), (x :: r).Pairwise (fun a b => dLt a b = some (.bool true)) → lcF (un2 some some) (fun _ : D × D => some true) (fun p : D × D => bin dLt (some p.1) (some p.2)) (zip2L (x :: r) r) = some (r.map fun _ => .bool true)
  | _, [], _ => rfl
  | x, y :: r, h => by
    obtain ⟨h1, h2⟩ := List.pairwise_cons.mp h
    rw [zip2L_cons]
    show ((un2 some some (.tuple [x, y])).bind _) = _
    rw [show un2 some some (.tuple [x, y]) = some (x, y) from rfl, Option.bind_some, Option.bind_some, if_pos rfl]
    rw [show (fun p : D × D => bin dLt (some p.1) (some p.2)) (x, y) = some (.bool true) from h1 y List.mem_cons_self, Option.bind_some, rise_lc y r h2]
    rfl
/-! effects -/
@[simp] theorem liftX_s {T α : Type} (m : T → Option α) (t : T) : liftX m t = (m t).map fun d => (d, t) := rfl
@[simp] theorem consX_s {T : Type} (m : T → Option (D × T)) (ms : T → Option (List D × T)) (t : T) : consX m ms t = (m t).bind fun p => (ms p.2).map fun q => (p.1 :: q.1, q.2) := rfl
@[simp] theorem binX_s {T : Type} (g : D → D → Option D) (a b : T → Option (D × T)) (t : T) : binX g a b t = (a t).bind fun p => (b p.2).bind fun q => (g p.1 q.1).map fun z => (z, q.2) := rfl
@[simp] theorem isBX_s {T : Type} (m : T → Option (D × T)) (t : T) : isBX m t = (m t).bind fun p => (isB p.1).map fun b => (b, p.2) := rfl
@[simp] theorem andTX_s {T : Type} (a b : T → Option (Bool × T)) (t : T) : andTX a b t = (a t).bind fun p => if p.1 then b p.2 else some (false, p.2) := rfl
@[simp] theorem orTX_s {T : Type} (a b : T → Option (Bool × T)) (t : T) : orTX a b t = (a t).bind fun p => if p.1 then some (true, p.2) else b p.2 := rfl
@[simp] theorem notTX_s {T : Type} (a : T → Option (Bool × T)) (t : T) : notTX a t = (a t).map fun p => (!p.1, p.2) := rfl
@[simp] theorem andVX_s {T : Type} (a b : T → Option (D × T)) (t : T) : andVX a b t = (a t).bind fun p => (isB p.1).bind fun x => if x then b p.2 else some (.bool false, p.2) := rfl
@[simp] theorem iteX_s {T α : Type} (t : T → Option (Bool × T)) (a b : T → Option (α × T)) (s : T) : iteX t a b s = (t s).bind fun p => if p.1 then a p.2 else b p.2 := rfl
@[simp] theorem lenOkX_s {T : Type} (m : T → Option (List D × T)) (t : T) : lenOkX m t = (m t).bind fun p => if p.1.length ≤ 100000 then some p else none := rfl
@[simp] theorem tupX_s {T : Type} (m : T → Option (List D × T)) (t : T) : tupX m t = (lenOkX m t).map fun p => (.tuple p.1, p.2) := rfl
@[simp] theorem appX_s {T α : Type} (g : List D → Option α) (m : T → Option (List D × T)) (t : T) : appX g m t = (m t).bind fun p => (g p.1).map fun z => (z, p.2) := rfl
@[simp] theorem bindX_s {T α β : Type} (m : T → Option (α × T)) (g : α → Option β) (t : T) : bindX m g t = (m t).bind fun p => (g p.1).map fun z => (z, p.2) := rfl
@[simp] theorem bindX'_s {T α β : Type} (m : T → Option (α × T)) (g : α → T → Option β) (t : T) : bindX' m g t = (m t).bind fun p => (g p.1 p.2).map fun z => (z, p.2) := rfl
@[simp] theorem two_s {T α β : Type} (a : T → Option (α × T)) (b : T → Option (β × T)) (t : T) : two a b t = (a t).bind fun p => (b p.2).map fun q => ((p.1, q.1), q.2) := rfl
@[simp] theorem three_s {T α β γ : Type} (a : T → Option (α × T)) (b : T → Option (β × T)) (d : T → Option (γ × T)) (t : T) : three a b d t = (a t).bind fun p => (b p.2).bind fun q => (d q.2).map fun r => ((p.1, q.1, r.1), r.2) := rfl
@[simp] theorem slX_s {T : Type} (g : Option Int → Option Int → D → Option D) (a : T → Option (D × T)) (lo hi : T → Option (Option Int × T)) (t : T) : slX g a lo hi t = (a t).bind fun p => (lo p.2).bind fun l => (hi l.2).bind fun h => (g l.1 h.1 p.1).map fun z => (z, h.2) := rfl
/-! ### equality of data without bools -/
mutual
/-- data in which no bool, no dict stands -/
def noB : D → Bool
  | .none => true
  | .bool _ => false
  | .int _ => true
  | .str _ => true
  | .list xs => noBs xs
  | .tuple xs => noBs xs
  | .dict _ => false
def noBs : List D → Bool
  | [] => true
  | x :: xs => noB x && noBs xs
end
theorem noBs_iff : ∀ {xs : List D}, noBs xs = true ↔ ∀ x ∈ xs, noB x = true
  | [] => by simp [noBs]
  | x :: xs => by simp [noBs, noBs_iff (xs := xs)]
mutual
theorem eqv_eq : ∀ (a b : D), noB a = true → noB b = true → PyData.eqv a b = true → a = b
  | .none, b, _, hb, h => by cases b <;> first | rfl | (simp [PyData.eqv] at h)
  | .int x, b, _, hb, h => by cases b <;> simp [PyData.eqv, noB] at h hb; rw [h]
  | .str x, b, _, hb, h => by cases b <;> simp [PyData.eqv, noB] at h hb; rw [h]
  | .list xs, b, ha, hb, h => by
    cases b <;> simp only [PyData.eqv, noB, Bool.false_eq_true] at h hb ha
    rw [eqvAll_eq _ _ ha hb h]
  | .tuple xs, b, ha, hb, h => by
    cases b <;> simp only [PyData.eqv, noB, Bool.false_eq_true] at h hb ha
    rw [eqvAll_eq _ _ ha hb h]
  | .bool _, _, ha, _, _ => by simp [noB] at ha
  | .dict _, _, ha, _, _ => by simp [noB] at ha
theorem eqvAll_eq : ∀ (a b : List D), noBs a = true → noBs b = true → PyData.eqvAll a b = true → a = b
  | [], [], _, _, _ => rfl
  | [], _ :: _, _, _, h => by simp [PyData.eqvAll] at h
  | _ :: _, [], _, _, h => by simp [PyData.eqvAll] at h
  | x :: xs, y :: ys, ha, hb, h => by
    simp only [PyData.eqvAll, noBs, Bool.and_eq_true] at h ha hb
    rw [eqv_eq x y ha.1 hb.1 h.1, eqvAll_eq xs ys ha.2 hb.2 h.2]
end
theorem nice_int {i : Int} (h : i.natAbs < 10 ^ 18) : nice (.int i) = true := by simp only [nice, decide_eq_true_eq]; exact h
theorem eqv_iff {a b : D} (na : nice a = true) (ha : noB a = true) (hb : noB b = true) : PyData.eqv a b = cl (a = b) := by
  by_cases h : a = b
  · rw [cl_iff.mpr h, h]
    exact eqv_refl b (h ▸ na)
  · rw [show cl (a = b) = false by cases q : cl (a = b) with | false => rfl | true => exact absurd (cl_iff.mp q) h]
    cases q : PyData.eqv a b with
    | false => rfl
    | true => exact absurd (eqv_eq a b ha hb q) h
theorem dEq_self {a : D} (na : nice a = true) (da : a.depth ≤ 64) : dEq a a = some (.bool true) := by rw [dEq_nice na na da da, eqv_refl a na]
theorem dNe_self {a : D} (na : nice a = true) (da : a.depth ≤ 64) : dNe a a = some (.bool false) := by rw [dNe_nice na na da da, eqv_refl a na]; rfl
theorem dEq_cl {a b : D} (na : nice a = true) (nb : nice b = true) (ha : noB a = true) (hb : noB b = true) (da : a.depth ≤ 64) (db : b.depth ≤ 64) : dEq a b = some (.bool (cl (a = b))) := by rw [dEq_nice na nb da db, eqv_iff na ha hb]
theorem dNe_cl {a b : D} (na : nice a = true) (nb : nice b = true) (ha : noB a = true) (hb : noB b = true) (da : a.depth ≤ 64) (db : b.depth ≤ 64) : dNe a b = some (.bool (!cl (a = b))) := by rw [dNe_nice na nb da db, eqv_iff na ha hb]
/-! ### sorted -/
/-- what is strictly ascending, and as what is sorted but for the sequence, is it sorted -/
theorem sorted_unique {l m : List D} (hp : l.Perm m) (hs : m.Pairwise fun a b => PySem.W.dataLt a b = true) : sortedD l = m := by
  have T := PySem.W.sortLe_total (PyProof.Rows.listOrd PyProof.Rows.itemOrd) false (fun d : D => PySem.W.keyToks d)
  unfold sortedD
  have hp2 : (l.mergeSort (PySem.W.dataLe false fun d => d)).Perm m := (List.mergeSort_perm l _).trans hp
  have asym : ∀ a b : D, PySem.W.dataLt a b = true → PySem.W.dataLt b a = false := fun a b h => by
    cases q : PySem.W.dataLt b a with
    | false => rfl
    | true =>
      have z := PyProof.Rows.lex_trans (O := PyProof.Rows.itemOrd) _ _ _ h q
      rw [show PyProof.Rows.lexLt PyProof.Rows.itemOrd (PySem.W.keyToks a) (PySem.W.keyToks a) = false from PyProof.Rows.lex_irrefl _] at z
      cases z
  have le_of : ∀ a b : D, PySem.W.dataLt a b = true → PySem.W.dataLe false (fun d : D => d) a b = true := fun a b h => by
    show (!PySem.W.dataLt b a) = true
    rw [asym a b h]; rfl
  refine List.Perm.eq_of_pairwise (le := fun a b => PySem.W.dataLe false (fun d : D => d) a b = true) (fun a b ha hb h1 h2 => ?_) (List.pairwise_mergeSort (fun a b c => T.trans a b c) (fun a b => ?_) l) (hs.imp fun h => le_of _ _ h) hp2
  · have ha' := hp2.mem_iff.mp ha
    have n1 : PySem.W.dataLt b a = false := by have z : (!PySem.W.dataLt b a) = true := h1; simpa using z
    have n2 : PySem.W.dataLt a b = false := by have z : (!PySem.W.dataLt a b) = true := h2; simpa using z
    rcases Classical.em (a = b) with e | e
    · exact e
    · exfalso
      have key : ∀ {m : List D}, m.Pairwise (fun a b => PySem.W.dataLt a b = true) → a ∈ m → b ∈ m → PySem.W.dataLt a b = true ∨ PySem.W.dataLt b a = true := fun {m} hm => by
        induction hm with
        | nil => intro h; cases h
        | @cons x r hx _ ih =>
          intro h1 h2
          rcases List.mem_cons.mp h1 with e1 | h1
          · rcases List.mem_cons.mp h2 with e2 | h2
            · exact absurd (e1.trans e2.symm) e
            · exact .inl (e1 ▸ hx _ h2)
          · rcases List.mem_cons.mp h2 with e2 | h2
            · exact .inr (e2 ▸ hx _ h1)
            · exact ih h1 h2
      rcases key hs ha' hb with q | q
      · rw [n2] at q; cases q
      · rw [n1] at q; cases q
  · have z := T.total a b
    simpa [PySem.W.dataLe] using z
end DL

set_option Elab.async false
set_option linter.all false
set_option maxRecDepth 100000
set_option maxHeartbeats 4000000
set_option autoImplicit false
namespace DL
open PySem PySem.Spec PyProof.Rows L2
noncomputable def B_is_int (x_value : D) (x_low : D) (x_high : D) : Option (Fl (Unit) Empty (D)) :=
  ((andV ((some x_value).bind (dIsi "int")) (andV (notV ((some x_value).bind (dIsi "bool"))) (chainO dLe dLe (some x_low) (some x_value) (some x_high)))).map fun d => .rt d)
noncomputable def M_is_int (x_value : D) (x_low : D) (x_high : D) : Option D := (B_is_int x_value x_low x_high).bind finP
noncomputable def b_is_int : List D → Option (Fl (Unit) Empty (D))
  | [x_value, x_low, x_high] => B_is_int x_value x_low x_high
  | _ => none
noncomputable def g_is_int (ds : List D) : Option D := (b_is_int ds).bind finP
noncomputable def B_is_told (x_value : D) (x_sizes : D) : Option (Fl (Unit) Empty (D)) :=
  ((andV ((some x_value).bind (dIsi "tuple")) (andV (bin dIn ((consO (some x_value) (some [])).bind dLen) (some x_sizes)) ((bin dIx (some x_value) (some (.int 0))).bind (dIsi "str")))).map fun d => .rt d)
noncomputable def M_is_told (x_value : D) (x_sizes : D) : Option D := (B_is_told x_value x_sizes).bind finP
noncomputable def b_is_told : List D → Option (Fl (Unit) Empty (D))
  | [x_value, x_sizes] => B_is_told x_value x_sizes
  | _ => none
noncomputable def g_is_told (ds : List D) : Option D := (b_is_told ds).bind finP
noncomputable def B_is_rising (x_some : D) : Option (Fl (Unit) Empty (D)) :=
  (((consO ((lenOk (((consO (some x_some) (consO (slO dSl (some x_some) ((some (.int 1)).bind fun d => (isI d).map some) (some none)) (some []))).bind dZip2).bind (lcF (un2 some some) (fun p1 : (D × D) => some true) fun p1 : (D × D) => (bin dLt (some p1.1) (some p1.2))))).map .list) (some [])).bind dAll).map fun d => .rt d)
noncomputable def M_is_rising (x_some : D) : Option D := (B_is_rising x_some).bind finP
noncomputable def b_is_rising : List D → Option (Fl (Unit) Empty (D))
  | [x_some] => B_is_rising x_some
  | _ => none
noncomputable def g_is_rising (ds : List D) : Option D := (b_is_rising ds).bind finP
noncomputable def B_is_name (x_value : D) : Option (Fl (Unit) Empty (D)) :=
  ((andV ((some x_value).bind (dIsi "str")) (andV (chainO dLe dLe (some (.int 1)) ((consO (some x_value) (some [])).bind dLen) (some (.int 30))) ((consO ((lenOk (((some x_value).bind iterS).bind (lcF some (fun p1 : D => some true) fun p1 : D => (bin dIn (some p1) (some (.str "abcdefghijklmnopqrstuvwxyz0123456789.-")))))).map .list) (some [])).bind dAll))).map fun d => .rt d)
noncomputable def M_is_name (x_value : D) : Option D := (B_is_name x_value).bind finP
noncomputable def b_is_name : List D → Option (Fl (Unit) Empty (D))
  | [x_value] => B_is_name x_value
  | _ => none
noncomputable def g_is_name (ds : List D) : Option D := (b_is_name ds).bind finP
noncomputable def B_is_goal (x_value : D) : Option (Fl (Unit) Empty (D)) :=
  (iteO ((((consO (some x_value) (consO ((lenOk (consO (some (.int 2)) (some []))).map .tuple) (some []))).bind g_is_told).bind isB).map (!·)) ((((some (.bool false)).map fun d => .rt d) : Option (Fl Empty (Empty) (D))).map castFl) (iteO ((bin dEq (bin dIx (some x_value) (some (.int 0))) (some (.str "at"))).bind isB) (((((consO (bin dIx (some x_value) (some (.int 1))) (consO (some (.int 0)) (consO (some (.int 1000000)) (some [])))).bind g_is_int).map fun d => .rt d) : Option (Fl Empty (Empty) (D))).map castFl) ((andV (bin dEq (bin dIx (some x_value) (some (.int 0))) (some (.str "also"))) ((consO (bin dIx (some x_value) (some (.int 1))) (some [])).bind g_is_name)).map fun d => .rt d)))
noncomputable def M_is_goal (x_value : D) : Option D := (B_is_goal x_value).bind finP
noncomputable def b_is_goal : List D → Option (Fl (Unit) Empty (D))
  | [x_value] => B_is_goal x_value
  | _ => none
noncomputable def g_is_goal (ds : List D) : Option D := (b_is_goal ds).bind finP
noncomputable def L1_are_names  (l2 : Unit) (p3 : D) : Option (Fl (Unit) (Unit) (D)) :=
  (iteO (orT ((((some p3).bind (dIsi "tuple")).bind isB).map (!·)) (orT ((bin dNe ((consO (some p3) (some [])).bind dLen) (some (.int 2))).bind isB) (orT ((((consO (bin dIx (some p3) (some (.int 0))) (some [])).bind g_is_name).bind isB).map (!·)) ((((consO (bin dIx (some p3) (some (.int 1))) (some [])).bind g_is_goal).bind isB).map (!·))))) ((((some (.bool false)).map fun d => .rt d) : Option (Fl Empty (Unit) (D))).map castFl) (some (.nx ())))
noncomputable def B_are_names (x_value : D) : Option (Fl (Unit) Empty (D)) :=
  (iteO (orT ((((some x_value).bind (dIsi "tuple")).bind isB).map (!·)) ((bin dGt ((consO (some x_value) (some [])).bind dLen) (some (.int 40))).bind isB)) ((((some (.bool false)).map fun d => .rt d) : Option (Fl Empty (Empty) (D))).map castFl) ((((some x_value).bind iterS).bind fun its => forF (L := Unit) (R := D) (fun l x => (some x).bind (L1_are_names l)) its ()).bind (seqLp fun l2 => (((consO ((lenOk (((some x_value).bind iterS).bind (lcF some (fun p6 : D => some true) fun p6 : D => (bin dIx (some p6) (some (.int 0)))))).map .list) (some [])).bind g_is_rising).map fun d => .rt d))))
noncomputable def M_are_names (x_value : D) : Option D := (B_are_names x_value).bind finP
noncomputable def b_are_names : List D → Option (Fl (Unit) Empty (D))
  | [x_value] => B_are_names x_value
  | _ => none
noncomputable def g_are_names (ds : List D) : Option D := (b_are_names ds).bind finP
noncomputable def B_look_at_names (x_names : D) : Option (Fl (Unit) Empty (D)) :=
  (iteO ((((consO (some x_names) (some [])).bind g_are_names).bind isB).map (!·)) ((none : Option (Fl Empty (Empty) (D))).map castFl) (some (.nx ())))
noncomputable def M_look_at_names (x_names : D) : Option D := (B_look_at_names x_names).bind finP
noncomputable def b_look_at_names : List D → Option (Fl (Unit) Empty (D))
  | [x_names] => B_look_at_names x_names
  | _ => none
noncomputable def g_look_at_names (ds : List D) : Option D := (b_look_at_names ds).bind finP
noncomputable def L1_told_lookup (x_known : D) (l2 : List D) : Option (Fl (List D) (List D) (D)) :=
  ((bin dGet1 (some x_known) (bin dIx (some (.list l2)) ((some (.int 1)).bind dNeg))).bind fun v4 => (iteO ((bin dIs (some v4) (some .none)).bind isB) (((((lenOk (consO (some (.str "lost")) (consO (bin dIx (some (.list l2)) ((some (.int 1)).bind dNeg)) (consO ((consO (some (.list l2)) (some [])).bind dTuple) (some []))))).map .tuple).map fun d => .rt d) : Option (Fl Empty (List D) (D))).map castFl) (iteO ((bin dEq (bin dIx (some v4) (some (.int 0))) (some (.str "at"))).bind isB) (((((lenOk (consO (some (.str "at")) (consO (bin dIx (some v4) (some (.int 1))) (consO ((consO (some (.list l2)) (some [])).bind dTuple) (some []))))).map .tuple).map fun d => .rt d) : Option (Fl Empty (List D) (D))).map castFl) (iteO ((bin dIn (bin dIx (some v4) (some (.int 1))) (some (.list l2))).bind isB) (((((lenOk (consO (some (.str "round")) (consO (bin dIx (some v4) (some (.int 1))) (consO ((consO (some (.list l2)) (some [])).bind dTuple) (some []))))).map .tuple).map fun d => .rt d) : Option (Fl Empty (List D) (D))).map castFl) (((bin dIx (some v4) (some (.int 1))).bind (appD l2)).bind fun v8 => (some (.nx v8)))))))
noncomputable def B_told_lookup (x_names : D) (x_name : D) : Option (Fl (Unit) Empty (D)) :=
  ((two (T := Unit) (liftX fun _ => (((consO (some x_names) (some [])).bind dDict).map .dict)) (liftX fun _ => (lenOk (consO (some x_name) (some [])))) ()).bind fun v1 => ((whileF (L := List D) (R := D) (fun l2 => ((some (.bool true)).bind isB)) (L1_told_lookup v1.1.1) 1000000 v1.1.2).bind (seqLp fun l2 => (some (.nx ())))))
noncomputable def M_told_lookup (x_names : D) (x_name : D) : Option D := (B_told_lookup x_names x_name).bind finP
noncomputable def b_told_lookup : List D → Option (Fl (Unit) Empty (D))
  | [x_names, x_name] => B_told_lookup x_names x_name
  | _ => none
noncomputable def g_told_lookup (ds : List D) : Option D := (b_told_lookup ds).bind finP
noncomputable def B_lookup (x_names : D) (x_name : D) : Option (Fl (Unit) Empty (D)) :=
  (((consO (some x_names) (some [])).bind g_look_at_names).bind fun _ => (iteO ((((consO (some x_name) (some [])).bind g_is_name).bind isB).map (!·)) ((none : Option (Fl Empty (Empty) (D))).map castFl) (((consO (some x_names) (consO (some x_name) (some []))).bind g_told_lookup).map fun d => .rt d)))
noncomputable def M_lookup (x_names : D) (x_name : D) : Option D := (B_lookup x_names x_name).bind finP
noncomputable def b_lookup : List D → Option (Fl (Unit) Empty (D))
  | [x_names, x_name] => B_lookup x_names x_name
  | _ => none
noncomputable def g_lookup (ds : List D) : Option D := (b_lookup ds).bind finP
noncomputable def B_bad_names (x_names : D) : Option (Fl (Unit) Empty (D)) :=
  (((consO (some x_names) (some [])).bind g_look_at_names).bind fun _ => (((consO ((lenOk (((some x_names).bind iterS).bind (lcF (un2 some some) (fun p1 : (D × D) => ((bin dNe (bin dIx ((consO (some x_names) (consO (some p1.1) (some []))).bind g_told_lookup) (some (.int 0))) (some (.str "at"))).bind isB)) fun p1 : (D × D) => (some p1.1)))).map .list) (some [])).bind dTuple).map fun d => .rt d))
noncomputable def M_bad_names (x_names : D) : Option D := (B_bad_names x_names).bind finP
noncomputable def b_bad_names : List D → Option (Fl (Unit) Empty (D))
  | [x_names] => B_bad_names x_names
  | _ => none
noncomputable def g_bad_names (ds : List D) : Option D := (b_bad_names ds).bind finP
noncomputable def B_names_at (x_names : D) (x_number : D) : Option (Fl (Unit) Empty (D)) :=
  (((consO (some x_names) (some [])).bind g_look_at_names).bind fun _ => (iteO ((((consO (some x_number) (consO (some (.int 0)) (consO (some (.int 1000000)) (some [])))).bind g_is_int).bind isB).map (!·)) ((none : Option (Fl Empty (Empty) (D))).map castFl) (((consO ((lenOk (((some x_names).bind iterS).bind (lcF (un2 some some) (fun p2 : (D × D) => ((bin dEq (slO dSl ((consO (some x_names) (consO (some p2.1) (some []))).bind g_told_lookup) (some none) ((some (.int 2)).bind fun d => (isI d).map some)) ((lenOk (consO (some (.str "at")) (consO (some x_number) (some [])))).map .tuple)).bind isB)) fun p2 : (D × D) => (some p2.1)))).map .list) (some [])).bind dTuple).map fun d => .rt d)))
noncomputable def M_names_at (x_names : D) (x_number : D) : Option D := (B_names_at x_names x_number).bind finP
noncomputable def b_names_at : List D → Option (Fl (Unit) Empty (D))
  | [x_names, x_number] => B_names_at x_names x_number
  | _ => none
noncomputable def g_names_at (ds : List D) : Option D := (b_names_at ds).bind finP
noncomputable def L1_straight (x_names : D) (l2 : List D) (p3 : (D × D)) : Option (Fl (List D) (List D) (D)) :=
  (((consO (some x_names) (consO (some p3.1) (some []))).bind g_told_lookup).bind fun v4 => ((iteO ((bin dEq (bin dIx (some v4) (some (.int 0))) (some (.str "at"))).bind isB) ((((lenOk (consO (some p3.1) (consO ((lenOk (consO (some (.str "at")) (consO (bin dIx (some v4) (some (.int 1))) (some [])))).map .tuple) (some [])))).map .tuple).bind (appD l2)).bind fun v8 => (some (.nx v8))) (some (.nx l2)) : Option (Fl (List D) (List D) (D))).bind (seqFl fun n7 => (some (.nx n7)))))
noncomputable def B_straight (x_names : D) : Option (Fl (Unit) Empty (D)) :=
  (((consO (some x_names) (some [])).bind g_look_at_names).bind fun _ => ((lenOk (some [])).bind fun v1 => ((((some x_names).bind iterS).bind fun its => forF (L := List D) (R := D) (fun l x => ((un2 some some) x).bind (L1_straight x_names l)) its v1).bind (seqLp fun l2 => (((consO (some (.list l2)) (some [])).bind dTuple).map fun d => .rt d)))))
noncomputable def M_straight (x_names : D) : Option D := (B_straight x_names).bind finP
noncomputable def b_straight : List D → Option (Fl (Unit) Empty (D))
  | [x_names] => B_straight x_names
  | _ => none
noncomputable def g_straight (ds : List D) : Option D := (b_straight ds).bind finP
noncomputable def B__law_pot (x_script : D) (x_place : D) : Option (Fl (Unit) Empty (List D)) :=
  ((iteO ((bin dLt (some x_place) ((consO (some x_script) (some [])).bind dLen)).bind isB) (bin dIx (some x_script) (some x_place)) (bin dPlus (bin dPlus (bin dMod ((consO ((consO (slO dSl (some x_script) (some none) ((some (.int 1)).bind fun d => (isI d).map some)) (some [])).bind dSum) (some [])).bind dInt) (some (.int 1000211))) (bin dMul (some (.int 4639)) (some x_place))) (some (.int 3163)))).bind fun v1 => ((bin dMul (bin dMod ((consO ((consO (some v1) (some [])).bind dAbs) (some [])).bind dInt) (bin dPow (bin dPow (some (.int 10)) (some (.int 60))) (some (.int 5)))) ((consO (bin dGe ((consO (some v1) (some [])).bind dAbs) (bin dPow (some (.int 10)) (some (.int 18)))) (some [])).bind dInt)).bind fun v2 => ((bin dMod ((consO (some v1) (some [])).bind dInt) (some (.int 2305843009213693951))).bind fun v3 => ((lenOk (consO (some v2) (consO (bin dMod ((consO (bin dPlus (bin dPlus (bin dMul (some v3) (some (.int 72161))) (bin dMul (bin dMul (some (.int 10853)) (some x_place)) (some x_place))) (some (.int 2843))) (some [])).bind dInt) (some (.int 2305843009213693921))) (consO (some (.int 0)) (some []))))).map fun d => .rt d))))
noncomputable def M__law_pot (x_script : D) (x_place : D) : Option (List D) := (B__law_pot x_script x_place).bind finF
noncomputable def b__law_pot : List D → Option (Fl (Unit) Empty (List D))
  | [x_script, x_place] => B__law_pot x_script x_place
  | _ => none
noncomputable def g__law_pot (ds : List D) : Option (List D) := (b__law_pot ds).bind finF
noncomputable def B__law_take (x_pot : List D) (x_upto : D) : Option (Fl (List D) Empty (D × List D)) :=
  (iteO ((bin dGt (bin dIx (some (.list x_pot)) (some (.int 0))) (some (.int 0))).bind isB) ((((bin dMod ((consO (bin dIx (some (.list x_pot)) (some (.int 0))) (some [])).bind dInt) (some x_upto)).bind fun v2 => (((bin dFdiv (bin dIx (some (.list x_pot)) (some (.int 0))) (some x_upto)).bind fun d => (some (.int 0)).bind fun q => setD x_pot q d).bind fun v3 => ((some v2).map fun d => .rt (d, v3)))) : Option (Fl Empty (Empty) (D × List D))).map castFl) (((bin dPlus (bin dIx (some (.list x_pot)) (some (.int 2))) (some (.int 1))).bind fun d => (some (.int 2)).bind fun q => setD x_pot q d).bind fun v4 => ((bin dIx ((lenOk (consO (some (.int 2147483647)) (consO (some (.int 2147483629)) (consO (some (.int 2147483587)) (consO (some (.int 2147483579)) (consO (some (.int 2147483563)) (some []))))))).map .list) (bin dMod ((consO (bin dIx (some (.list v4)) (some (.int 2))) (some [])).bind dInt) (some (.int 5)))).bind fun v5 => ((bin dMod ((consO (bin dPow ((consO (bin dPlus (bin dPlus (bin dIx (some (.list v4)) (some (.int 1))) (bin dMul (bin dMul (some (.int 95257)) (bin dIx (some (.list v4)) (some (.int 2)))) (bin dIx (some (.list v4)) (some (.int 2))))) (some (.int 3163))) (some [])).bind dInt) (some (.int 3))) (some [])).bind dInt) (some v5)).bind fun v6 => ((bin dMod ((consO (bin dMul (some v6) (bin dPlus (bin dMod ((consO (some v6) (some [])).bind dInt) (some (.int 13441))) (bin dMul (some (.int 419)) (bin dIx (some (.list v4)) (some (.int 2)))))) (some [])).bind dInt) (some (.int 2305843009213693907))).bind fun v7 => ((bin dMod ((consO (bin dFdiv (some v7) (some (.int 229))) (some [])).bind dInt) (some x_upto)).map fun d => .rt (d, v4)))))))
noncomputable def M__law_take (x_pot : List D) (x_upto : D) : Option (D × List D) := (B__law_take x_pot x_upto).bind finM
noncomputable def b__law_take (qs : List D) : List D → Option (Fl (List D) Empty (D × List D))
  | [x_upto] => B__law_take qs x_upto
  | _ => none
noncomputable def g__law_take (qs ds : List D) : Option (D × List D) := (b__law_take qs ds).bind finM
noncomputable def B__law_of (x_pot : List D) (x_some : D) : Option (Fl (List D) Empty (D × List D)) :=
  (((binX dIx (liftX fun p => (some x_some)) (fun ps => ((consX (liftX fun p => ((consO (some x_some) (some [])).bind dLen)) (fun t => some ([], t))) ps).bind fun q => g__law_take q.2 q.1)) x_pot).map fun q => .rt q)
noncomputable def M__law_of (x_pot : List D) (x_some : D) : Option (D × List D) := (B__law_of x_pot x_some).bind finM
noncomputable def b__law_of (qs : List D) : List D → Option (Fl (List D) Empty (D × List D))
  | [x_some] => B__law_of qs x_some
  | _ => none
noncomputable def g__law_of (qs ds : List D) : Option (D × List D) := (b__law_of qs ds).bind finM
noncomputable def B__law_cells (x_script : D) (x_most : D) : Option (Fl (Unit) Empty (List D)) :=
  ((((consO (some (.int 1)) (consO ((consO (some x_most) (consO ((consO (some x_script) (some [])).bind dLen) (some []))).bind dMin) (some []))).bind dMax).bind dLR1).map fun d => .rt d)
noncomputable def M__law_cells (x_script : D) (x_most : D) : Option (List D) := (B__law_cells x_script x_most).bind finF
noncomputable def b__law_cells : List D → Option (Fl (Unit) Empty (List D))
  | [x_script, x_most] => B__law_cells x_script x_most
  | _ => none
noncomputable def g__law_cells (ds : List D) : Option (List D) := (b__law_cells ds).bind finF
noncomputable def L1__law_lot (x_sign : D) (x_other : D) (x_many : D) (l2 : List D × List D) (p3 : D) : Option (Fl (List D × List D) (List D × List D) (D × List D)) :=
  (((fun ps => ((consX (liftX fun p => (some (.int 6))) (fun t => some ([], t))) ps).bind fun q => g__law_take q.2 q.1) l2.1).bind fun v4 => ((iteO ((bin dLt (some v4.1) (some (.int 2))).bind isB) (((tupX (consX (liftX fun p => (some (.str "at"))) (consX (appX dInt (consX (fun ps => ((consX (liftX fun p => (some (.int 4))) (fun t => some ([], t))) ps).bind fun q => g__law_take q.2 q.1) (fun t => some ([], t)))) (fun t => some ([], t))))) v4.2).bind fun v14 => (some (.nx (v14.2, v14.1)))) ((iteO ((bin dLt (some v4.1) (some (.int 5))).bind isB) (((tupX (consX (liftX fun p => (some (.str "also"))) (consX (binX dPlus (liftX fun p => (some x_sign)) (appX dStr (consX (binX dPlus (liftX fun p => (some (.int 10))) (appX dInt (consX (fun ps => ((consX (liftX fun p => (bin dPlus (some x_many) (some (.int 1)))) (fun t => some ([], t))) ps).bind fun q => g__law_take q.2 q.1) (fun t => some ([], t))))) (fun t => some ([], t))))) (fun t => some ([], t))))) v4.2).bind fun v19 => (some (.nx (v19.2, v19.1)))) (((tupX (consX (liftX fun p => (some (.str "also"))) (consX (binX dPlus (liftX fun p => (some x_other)) (appX dStr (consX (binX dPlus (liftX fun p => (some (.int 10))) (appX dInt (consX (fun ps => ((consX (liftX fun p => (some (.int 16))) (fun t => some ([], t))) ps).bind fun q => g__law_take q.2 q.1) (fun t => some ([], t))))) (fun t => some ([], t))))) (fun t => some ([], t))))) v4.2).bind fun v20 => (some (.nx (v20.2, v20.1)))) : Option (Fl (List D × D) (List D × List D) (D × List D))).bind (seqFl fun n18 => (some (.nx (n18.1, n18.2))))) : Option (Fl (List D × D) (List D × List D) (D × List D))).bind (seqFl fun n13 => ((iteO ((bin dNe (some n13.2) ((lenOk (consO (some (.str "also")) (consO (bin dPlus (some x_sign) ((consO (bin dPlus (some (.int 10)) (some p3)) (some [])).bind dStr)) (some [])))).map .tuple)).bind isB) ((((lenOk (consO (bin dPlus (some x_sign) ((consO (bin dPlus (some (.int 10)) (some p3)) (some [])).bind dStr)) (consO (some n13.2) (some [])))).map .tuple).bind (appD l2.2)).bind fun v28 => (some (.nx v28))) ((iteO ((bin dEq (some p3) (some (.int 0))).bind isB) ((((lenOk (consO (bin dPlus (some x_sign) (some (.str "10"))) (consO ((lenOk (consO (some (.str "at")) (consO (some (.int 3)) (some [])))).map .tuple) (some [])))).map .tuple).bind (appD l2.2)).bind fun v32 => (some (.nx v32))) (some (.nx l2.2)) : Option (Fl (List D) (List D × List D) (D × List D))).bind (seqFl fun n31 => (some (.nx n31)))) : Option (Fl (List D) (List D × List D) (D × List D))).bind (seqFl fun n27 => (some (.nx (n13.1, n27))))))))
noncomputable def B__law_lot (x_pot : List D) (x_sign : D) (x_other : D) (x_many : D) : Option (Fl (List D) Empty (D × List D)) :=
  ((lenOk (some [])).bind fun v1 => ((((some x_many).bind dR1).bind fun its => forF (L := List D × List D) (R := D × List D) (fun l x => (some x).bind (L1__law_lot x_sign x_other x_many l)) its (x_pot, v1)).bind (seqLp fun l2 => (((consO (some (.list l2.2)) (some [])).bind dTuple).map fun d => .rt (d, l2.1)))))
noncomputable def M__law_lot (x_pot : List D) (x_sign : D) (x_other : D) (x_many : D) : Option (D × List D) := (B__law_lot x_pot x_sign x_other x_many).bind finM
noncomputable def b__law_lot (qs : List D) : List D → Option (Fl (List D) Empty (D × List D))
  | [x_sign, x_other, x_many] => B__law_lot qs x_sign x_other x_many
  | _ => none
noncomputable def g__law_lot (qs ds : List D) : Option (D × List D) := (b__law_lot qs ds).bind finM
noncomputable def B__law_goes_on (x_lots : D) (x_name : D) : Option (Fl (Unit) Empty (D)) :=
  ((((consO (bin dIx (some x_lots) (some (.int 0))) (consO (some x_name) (some []))).bind g_lookup).bind (un3 some some some)).bind fun v1 => (iteO (orT ((bin dNe (some v1.1) (some (.str "lost"))).bind isB) ((bin dNotIn (some v1.2.1) ((lenOk (((bin dIx (some x_lots) (some (.int 1))).bind iterS).bind (lcF (un2 some some) (fun p3 : (D × D) => some true) fun p3 : (D × D) => (some p3.1)))).map .list)).bind isB)) (((((lenOk (consO (some v1.1) (consO (some v1.2.1) (consO (some v1.2.2) (some []))))).map .tuple).map fun d => .rt d) : Option (Fl Empty (Empty) (D))).map castFl) (((consO (bin dIx (some x_lots) (some (.int 1))) (consO (some v1.2.1) (some []))).bind g_lookup).bind fun v4 => (iteO (andT ((bin dEq (bin dIx (some v4) (some (.int 0))) (some (.str "lost"))).bind isB) ((bin dIn (bin dIx (some v4) (some (.int 1))) ((lenOk (((bin dIx (some x_lots) (some (.int 0))).bind iterS).bind (lcF (un2 some some) (fun p6 : (D × D) => some true) fun p6 : (D × D) => (some p6.1)))).map .list)).bind isB)) ((((some .none).map fun d => .rt d) : Option (Fl Empty (Empty) (D))).map castFl) (((lenOk (consO (bin dIx (some v4) (some (.int 0))) (consO (bin dIx (some v4) (some (.int 1))) (consO (bin dPlus (slO dSl (some v1.2.2) (some none) (((some (.int 1)).bind dNeg).bind fun d => (isI d).map some)) (bin dIx (some v4) (some (.int 2)))) (some []))))).map .tuple).map fun d => .rt d)))))
noncomputable def M__law_goes_on (x_lots : D) (x_name : D) : Option D := (B__law_goes_on x_lots x_name).bind finP
noncomputable def b__law_goes_on : List D → Option (Fl (Unit) Empty (D))
  | [x_lots, x_name] => B__law_goes_on x_lots x_name
  | _ => none
noncomputable def g__law_goes_on (ds : List D) : Option D := (b__law_goes_on ds).bind finP
noncomputable def L1__law_is_lot_right (x_lots : D) (x_both : D) (x_mine : D) (x_bad : D) (l4 : List D) (p5 : D) : Option (Fl (List D) (List D) (D × List D)) :=
  (((fun ps => ((consX (liftX fun p => (some x_mine)) (fun t => some ([], t))) ps).bind fun q => g__law_of q.2 q.1) l4).bind fun v6 => ((two (T := Unit) (liftX fun _ => ((consO (some x_lots) (consO (some v6.1) (some []))).bind g__law_goes_on)) (liftX fun _ => ((consO (some x_both) (consO (some v6.1) (some []))).bind g_lookup)) ()).bind fun v7 => (iteO (andT ((bin dIsNot (some v7.1.1) (some .none)).bind isB) ((bin dNe ((consO (some v7.1.2) (some [])).bind dRepr) ((consO (some v7.1.1) (some [])).bind dRepr)).bind isB)) ((((some (.bool false)).map fun d => .rt (d, v6.2)) : Option (Fl Empty (List D) (D × List D))).map castFl) (iteO (orT ((bin dNe (bin dIn (some v6.1) (some x_bad)) (bin dNe (bin dIx (some v7.1.2) (some (.int 0))) (some (.str "at")))).bind isB) ((bin dNe (bin dIx (bin dIx (some v7.1.2) (some (.int 2))) (some (.int 0))) (some v6.1)).bind isB)) ((((some (.bool false)).map fun d => .rt (d, v6.2)) : Option (Fl Empty (List D) (D × List D))).map castFl) (iteO (orT (andT ((bin dEq (bin dIx (some v7.1.2) (some (.int 0))) (some (.str "round"))).bind isB) ((bin dNotIn (bin dIx (some v7.1.2) (some (.int 1))) (bin dIx (some v7.1.2) (some (.int 2)))).bind isB)) (andT ((bin dEq (bin dIx (some v7.1.2) (some (.int 0))) (some (.str "at"))).bind isB) ((bin dNotIn (some v6.1) ((consO (some x_both) (consO (bin dIx (some v7.1.2) (some (.int 1))) (some []))).bind g_names_at)).bind isB))) ((((some (.bool false)).map fun d => .rt (d, v6.2)) : Option (Fl Empty (List D) (D × List D))).map castFl) (some (.nx v6.2)))))))
noncomputable def B__law_is_lot_right (x_pot : List D) (x_lots : D) (x_both : D) : Option (Fl (List D) Empty (D × List D)) :=
  ((lenOk (((bin dIx (some x_lots) (some (.int 0))).bind iterS).bind (lcF (un2 some some) (fun p2 : (D × D) => some true) fun p2 : (D × D) => (some p2.1)))).bind fun v1 => (((consO (some x_both) (some [])).bind g_bad_names).bind fun v3 => ((((some (.int 4)).bind dR1).bind fun its => forF (L := List D) (R := D × List D) (fun l x => (some x).bind (L1__law_is_lot_right x_lots x_both ((.list v1)) v3 l)) its x_pot).bind (seqLp fun l4 => ((some (.bool true)).map fun d => .rt (d, l4))))))
noncomputable def M__law_is_lot_right (x_pot : List D) (x_lots : D) (x_both : D) : Option (D × List D) := (B__law_is_lot_right x_pot x_lots x_both).bind finM
noncomputable def b__law_is_lot_right (qs : List D) : List D → Option (Fl (List D) Empty (D × List D))
  | [x_lots, x_both] => B__law_is_lot_right qs x_lots x_both
  | _ => none
noncomputable def g__law_is_lot_right (qs ds : List D) : Option (D × List D) := (b__law_is_lot_right qs ds).bind finM
noncomputable def L1__law_right (x_pot : List D) (x_lots : D) (x_both : D) (l14 : Unit) (p15 : D) : Option (Fl (Unit) (Unit) (D × List D)) :=
  (iteO ((bin dNe ((consO (some x_both) (consO (some p15) (some []))).bind g_names_at) (bin dPlus ((consO (bin dIx (some x_lots) (some (.int 0))) (consO (some p15) (some []))).bind g_names_at) ((consO (bin dIx (some x_lots) (some (.int 1))) (consO (some p15) (some []))).bind g_names_at))).bind isB) ((((some (.bool false)).map fun d => .rt (d, x_pot)) : Option (Fl Empty (Unit) (D × List D))).map castFl) (some (.nx ())))
noncomputable def L2__law_right (x_pot : List D) (x_both : D) (x_put : D) (l25 : Unit) (p26 : (D × D)) : Option (Fl (Unit) (Unit) (D × List D)) :=
  (iteO (orT ((bin dNe (bin dIx (some p26.2) (some (.int 0))) (some (.str "at"))).bind isB) ((bin dNe ((consO ((consO (some x_put) (consO (some p26.1) (some []))).bind g_lookup) (some [])).bind dRepr) ((consO ((lenOk (consO (some (.str "at")) (consO (bin dIx (some p26.2) (some (.int 1))) (consO ((lenOk (consO (some p26.1) (some []))).map .tuple) (some []))))).map .tuple) (some [])).bind dRepr)).bind isB)) ((((some (.bool false)).map fun d => .rt (d, x_pot)) : Option (Fl Empty (Unit) (D × List D))).map castFl) (iteO ((bin dNe (slO dSl ((consO (some x_both) (consO (some p26.1) (some []))).bind g_lookup) (some none) ((some (.int 2)).bind fun d => (isI d).map some)) ((lenOk (consO (some (.str "at")) (consO (bin dIx (some p26.2) (some (.int 1))) (some [])))).map .tuple)).bind isB) ((((some (.bool false)).map fun d => .rt (d, x_pot)) : Option (Fl Empty (Unit) (D × List D))).map castFl) (some (.nx ()))))
noncomputable def B__law_right (x_pot : List D) : Option (Fl (List D) Empty (D × List D)) :=
  (((tupX (consX (binX dPlus (liftX fun p => (some (.int 1))) (appX dInt (consX (fun ps => ((consX (liftX fun p => (some (.int 14))) (fun t => some ([], t))) ps).bind fun q => g__law_take q.2 q.1) (fun t => some ([], t))))) (consX (binX dPlus (liftX fun p => (some (.int 1))) (appX dInt (consX (fun ps => ((consX (liftX fun p => (some (.int 14))) (fun t => some ([], t))) ps).bind fun q => g__law_take q.2 q.1) (fun t => some ([], t))))) (fun t => some ([], t))))) x_pot).bind fun v1 => (((binX dEq (fun ps => ((consX (liftX fun p => (some (.int 3))) (fun t => some ([], t))) ps).bind fun q => g__law_take q.2 q.1) (liftX fun p => (some (.int 0)))) v1.2).bind fun v2 => (((tupX (consX (fun ps => ((consX (liftX fun p => (some (.str "a"))) (consX (liftX fun p => (iteO ((some v2.1).bind isB) (some (.str "x")) (some (.str "b")))) (consX (liftX fun p => (bin dIx (some v1.1) (some (.int 0)))) (fun t => some ([], t))))) ps).bind fun q => g__law_lot q.2 q.1) (consX (fun ps => ((consX (liftX fun p => (some (.str "b"))) (consX (liftX fun p => (iteO ((some v2.1).bind isB) (some (.str "y")) (some (.str "a")))) (consX (liftX fun p => (bin dIx (some v1.1) (some (.int 1)))) (fun t => some ([], t))))) ps).bind fun q => g__law_lot q.2 q.1) (fun t => some ([], t))))) v2.2).bind fun v3 => ((bin dPlus (bin dIx (some v3.1) (some (.int 0))) (bin dIx (some v3.1) (some (.int 1)))).bind fun v4 => (((orTX (notTX (isBX (fun ps => ((consX (liftX fun p => (some v3.1)) (consX (liftX fun p => (some v4)) (fun t => some ([], t)))) ps).bind fun q => g__law_is_lot_right q.2 q.1))) (notTX (isBX (fun ps => ((consX (liftX fun p => ((some v3.1).bind revT)) (consX (liftX fun p => (some v4)) (fun t => some ([], t)))) ps).bind fun q => g__law_is_lot_right q.2 q.1)))) v3.2).bind fun q5 => if q5.1 then (((some (.bool false)).map fun d => .rt (d, q5.2)) : Option (Fl Empty (Empty) (D × List D))).map castFl else ((iteO ((some v2.1).bind isB) (iteO (orT ((bin dNe ((consO (some v4) (some [])).bind g_bad_names) (bin dPlus ((consO (bin dIx (some v3.1) (some (.int 0))) (some [])).bind g_bad_names) ((consO (bin dIx (some v3.1) (some (.int 1))) (some [])).bind g_bad_names))).bind isB) ((bin dNe ((consO (some v4) (some [])).bind g_straight) (bin dPlus ((consO (bin dIx (some v3.1) (some (.int 0))) (some [])).bind g_straight) ((consO (bin dIx (some v3.1) (some (.int 1))) (some [])).bind g_straight))).bind isB)) ((((some (.bool false)).map fun d => .rt (d, q5.2)) : Option (Fl Empty (Empty) (D × List D))).map castFl) ((((some (.int 4)).bind dR1).bind fun its => forF (L := Unit) (R := D × List D) (fun l x => (some x).bind (L1__law_right q5.2 v3.1 v4 l)) its ()).bind (seqLp fun l14 => (some (.nx ()))))) (some (.nx ())) : Option (Fl (Unit) (Empty) (D × List D))).bind (seqFl fun n12 => ((((lenOk (consO ((consO (some v4) (some [])).bind g_straight) (consO ((consO (some v4) (some [])).bind g_bad_names) (some [])))).map .tuple).bind (un2 some some)).bind fun v18 => (((consO (((consO (bin dPlus (some v18.1) ((consO ((lenOk (((some v4).bind iterS).bind (lcF some (fun p20 : D => ((bin dIn (bin dIx (some p20) (some (.int 0))) (some v18.2)).bind isB)) fun p20 : D => (some p20)))).map .list) (some [])).bind dTuple)) (some [])).bind dSorted).map .list) (some [])).bind dTuple).bind fun v19 => (iteO (orT ((bin dNe ((lenOk (((some v19).bind iterS).bind (lcF (un2 some some) (fun p22 : (D × D) => some true) fun p22 : (D × D) => (some p22.1)))).map .list) ((lenOk (((some v4).bind iterS).bind (lcF (un2 some some) (fun p23 : (D × D) => some true) fun p23 : (D × D) => (some p23.1)))).map .list)).bind isB) ((bin dNe ((consO (some v19) (some [])).bind g_straight) (some v18.1)).bind isB)) ((((some (.bool false)).map fun d => .rt (d, q5.2)) : Option (Fl Empty (Empty) (D × List D))).map castFl) (iteO ((bin dNe ((consO (some v19) (some [])).bind g_bad_names) (some v18.2)).bind isB) ((((some (.bool false)).map fun d => .rt (d, q5.2)) : Option (Fl Empty (Empty) (D × List D))).map castFl) ((((some v18.1).bind iterS).bind fun its => forF (L := Unit) (R := D × List D) (fun l x => ((un2 some some) x).bind (L2__law_right q5.2 v4 v19 l)) its ()).bind (seqLp fun l25 => ((bin dEq ((consO ((lenOk (((some (.int 4)).bind dR1).bind (lcF some (fun p31 : D => some true) fun p31 : D => ((consO ((consO (some v4) (consO (some p31) (some []))).bind g_names_at) (some [])).bind dLen)))).map .list) (some [])).bind dSum) ((consO (some v18.1) (some [])).bind dLen)).map fun d => .rt (d, q5.2)))))))))))))))
noncomputable def M__law_right (x_pot : List D) : Option (D × List D) := (B__law_right x_pot).bind finM
noncomputable def b__law_right (qs : List D) : List D → Option (Fl (List D) Empty (D × List D))
  | [] => B__law_right qs 
  | _ => none
noncomputable def g__law_right (qs ds : List D) : Option (D × List D) := (b__law_right qs ds).bind finM
noncomputable def B_law (x_script : D) : Option (Fl (Unit) Empty (D)) :=
  (((consO ((lenOk (((((consO (some x_script) (consO (some (.int 3)) (some []))).bind g__law_cells).map .list).bind iterS).bind (lcF some (fun p1 : D => some true) fun p1 : D => (((consO (some x_script) (consO (some p1) (some []))).bind g__law_pot).bind fun ps => (some []).bind fun ds => (g__law_right ps ds).map (·.1))))).map .list) (some [])).bind dAll).map fun d => .rt d)
noncomputable def M_law (x_script : D) : Option D := (B_law x_script).bind finP
noncomputable def b_law : List D → Option (Fl (Unit) Empty (D))
  | [x_script] => B_law x_script
  | _ => none
noncomputable def g_law (ds : List D) : Option D := (b_law ds).bind finP
end DL

set_option Elab.async false
set_option linter.all false
set_option maxRecDepth 100000
set_option maxHeartbeats 4000000
set_option autoImplicit false
namespace DL
open PySem PySem.Spec PyProof.Rows L2
def top (i : Nat) : Stmt := PySem.Challenge.pw_holesheldopen_k66_whole_names_of_two_lot.main.body.getD i (.Pass ⟨0, 0, 0, 0⟩)
/-- what the walk asks of the part that stands written behind the top -/
structure Wd (K : PySem.W.Frag) (mg : Str → Option Value) : Prop where
  d_is_int : ∃ (f : Addr) (fd : FuncData), FunD K "is_int" "is_int" (defArgs (top 6)) (defBody (top 6)) (defScope (top 6)) [] [] f fd ∧ mg "is_int" = some (.ref f)
  d_is_told : ∃ (f : Addr) (fd : FuncData), FunD K "is_told" "is_told" (defArgs (top 7)) (defBody (top 7)) (defScope (top 7)) [] [] f fd ∧ mg "is_told" = some (.ref f)
  d_is_rising : ∃ (f : Addr) (fd : FuncData), FunD K "is_rising" "is_rising" (defArgs (top 8)) (defBody (top 8)) (defScope (top 8)) [] [] f fd ∧ mg "is_rising" = some (.ref f)
  d_is_name : ∃ (f : Addr) (fd : FuncData), FunD K "is_name" "is_name" (defArgs (top 18)) (defBody (top 18)) (defScope (top 18)) [] [] f fd ∧ mg "is_name" = some (.ref f)
  d_is_goal : ∃ (f : Addr) (fd : FuncData), FunD K "is_goal" "is_goal" (defArgs (top 19)) (defBody (top 19)) (defScope (top 19)) [] [] f fd ∧ mg "is_goal" = some (.ref f)
  d_are_names : ∃ (f : Addr) (fd : FuncData), FunD K "are_names" "are_names" (defArgs (top 20)) (defBody (top 20)) (defScope (top 20)) [] [] f fd ∧ mg "are_names" = some (.ref f)
  d_look_at_names : ∃ (f : Addr) (fd : FuncData), FunD K "look_at_names" "look_at_names" (defArgs (top 21)) (defBody (top 21)) (defScope (top 21)) [] [] f fd ∧ mg "look_at_names" = some (.ref f)
  d_told_lookup : ∃ (f : Addr) (fd : FuncData), FunD K "told_lookup" "told_lookup" (defArgs (top 22)) (defBody (top 22)) (defScope (top 22)) [] [] f fd ∧ mg "told_lookup" = some (.ref f)
  d_lookup : ∃ (f : Addr) (fd : FuncData), FunD K "lookup" "lookup" (defArgs (top 23)) (defBody (top 23)) (defScope (top 23)) [] [] f fd ∧ mg "lookup" = some (.ref f)
  d_bad_names : ∃ (f : Addr) (fd : FuncData), FunD K "bad_names" "bad_names" (defArgs (top 24)) (defBody (top 24)) (defScope (top 24)) [] [] f fd ∧ mg "bad_names" = some (.ref f)
  d_names_at : ∃ (f : Addr) (fd : FuncData), FunD K "names_at" "names_at" (defArgs (top 25)) (defBody (top 25)) (defScope (top 25)) [] [] f fd ∧ mg "names_at" = some (.ref f)
  d_straight : ∃ (f : Addr) (fd : FuncData), FunD K "straight" "straight" (defArgs (top 26)) (defBody (top 26)) (defScope (top 26)) [] [] f fd ∧ mg "straight" = some (.ref f)
  d__law_pot : ∃ (f : Addr) (fd : FuncData), FunD K "_law_pot" "_law_pot" (defArgs (top 28)) (defBody (top 28)) (defScope (top 28)) [] [] f fd ∧ mg "_law_pot" = some (.ref f)
  d__law_take : ∃ (f : Addr) (fd : FuncData), FunD K "_law_take" "_law_take" (defArgs (top 29)) (defBody (top 29)) (defScope (top 29)) [] [] f fd ∧ mg "_law_take" = some (.ref f)
  d__law_of : ∃ (f : Addr) (fd : FuncData), FunD K "_law_of" "_law_of" (defArgs (top 30)) (defBody (top 30)) (defScope (top 30)) [] [] f fd ∧ mg "_law_of" = some (.ref f)
  d__law_cells : ∃ (f : Addr) (fd : FuncData), FunD K "_law_cells" "_law_cells" (defArgs (top 31)) (defBody (top 31)) (defScope (top 31)) [] [] f fd ∧ mg "_law_cells" = some (.ref f)
  d__law_lot : ∃ (f : Addr) (fd : FuncData), FunD K "_law_lot" "_law_lot" (defArgs (top 32)) (defBody (top 32)) (defScope (top 32)) [] [] f fd ∧ mg "_law_lot" = some (.ref f)
  d__law_goes_on : ∃ (f : Addr) (fd : FuncData), FunD K "_law_goes_on" "_law_goes_on" (defArgs (top 33)) (defBody (top 33)) (defScope (top 33)) [] [] f fd ∧ mg "_law_goes_on" = some (.ref f)
  d__law_is_lot_right : ∃ (f : Addr) (fd : FuncData), FunD K "_law_is_lot_right" "_law_is_lot_right" (defArgs (top 34)) (defBody (top 34)) (defScope (top 34)) [] [] f fd ∧ mg "_law_is_lot_right" = some (.ref f)
  d__law_right : ∃ (f : Addr) (fd : FuncData), FunD K "_law_right" "_law_right" (defArgs (top 35)) (defBody (top 35)) (defScope (top 35)) [] [] f fd ∧ mg "_law_right" = some (.ref f)
  d_law : ∃ (f : Addr) (fd : FuncData), FunD K "law" "law" (defArgs (top 36)) (defBody (top 36)) (defScope (top 36)) [] [] f fd ∧ mg "law" = some (.ref f)
  n_abs : mg "abs" = none
  n_all : mg "all" = none
  n_bool : mg "bool" = none
  n_dict : mg "dict" = none
  n_int : mg "int" = none
  n_isinstance : mg "isinstance" = none
  n_len : mg "len" = none
  n_list : mg "list" = none
  n_max : mg "max" = none
  n_min : mg "min" = none
  n_range : mg "range" = none
  n_repr : mg "repr" = none
  n_sorted : mg "sorted" = none
  n_str : mg "str" = none
  n_sum : mg "sum" = none
  n_tuple : mg "tuple" = none
  n_zip : mg "zip" = none
  c_ALSO : ∃ t, mg "ALSO" = some (.str "also" t)
  c_AT : ∃ t, mg "AT" = some (.str "at" t)
  c_LETTERS : ∃ t, mg "LETTERS" = some (.str "abcdefghijklmnopqrstuvwxyz0123456789.-" t)
  c_LOST : ∃ t, mg "LOST" = some (.str "lost" t)
  c_MOST_LONG : ∃ t, mg "MOST_LONG" = some (.int 30 t)
  c_MOST_NAMES : ∃ t, mg "MOST_NAMES" = some (.int 40 t)
  c_MOST_TICK : ∃ t, mg "MOST_TICK" = some (.int 1000000 t)
  c_ROUND : ∃ t, mg "ROUND" = some (.str "round" t)
section
variable {P : Program} {w : World} {K : PySem.W.Frag} {mg : Str → Option Value} {base : Heap}
abbrev nm_is_int : List Str := ["value", "low", "high"]
theorem nd_is_int : nm_is_int.Nodup := by decide +kernel
theorem sc_is_int : FnScope nm_is_int ["value", "low", "high"] (defScope (top 6)) := C8.fnScope_by (by decide +kernel)
theorem w_is_int (W : Wd K mg) {f : Addr} {cdv : Value} {A : Around} {outer : List Env} {s : Shared} {H : Hp} (room : Room 0 (A.deeper (envOfC "is_int" (defScope (top 6)) s.heap.objs.size f cdv))) (gd : A.guards = some []) (x_value : D) (x_low : D) (x_high : D) :
    DB (BX P w K mg base nm_is_int "is_int" (defScope (top 6)) f cdv A outer s H) ⟨H, []⟩ (fun _ : Unit => [.any, .any, .any]) GE (RKp K H) [.imm x_value, .imm x_low, .imm x_high] (defBody (top 6)) (B_is_int x_value x_low x_high) := by
  unfold B_is_int
  exact db_ret (de_and (de_isi W.n_isinstance W.n_int (DE.w (de_var 0))) (de_and (de_not (de_isi W.n_isinstance W.n_bool (DE.w (de_var 0)))) (de_one (de_chain (od_le (u64 room)) (od_le (u64 room)) (DE.w (de_var 1)) (DE.w (de_var 0)) (DE.w (de_var 2)))))) rkp
theorem F_is_int (W : Wd K mg) : CalG P w K mg base 1 "is_int" (spP K g_is_int) :=
  calP W.d_is_int sc_is_int (fun _ _ _ _ _ _ us hl => match us, hl with | [_, _, _], _ => rfl) (by decide) b_is_int (fun ds o h => by unfold b_is_int at h; split at h <;> first | rfl | cases h)
    fun f cdv A outer s H ds hl room gd => match ds, hl with | [x_value, x_low, x_high], _ => w_is_int W room gd x_value x_low x_high
abbrev nm_is_told : List Str := ["value", "sizes"]
theorem nd_is_told : nm_is_told.Nodup := by decide +kernel
theorem sc_is_told : FnScope nm_is_told ["value", "sizes"] (defScope (top 7)) := C8.fnScope_by (by decide +kernel)
theorem w_is_told (W : Wd K mg) {f : Addr} {cdv : Value} {A : Around} {outer : List Env} {s : Shared} {H : Hp} (room : Room 0 (A.deeper (envOfC "is_told" (defScope (top 7)) s.heap.objs.size f cdv))) (gd : A.guards = some []) (x_value : D) (x_sizes : D) :
    DB (BX P w K mg base nm_is_told "is_told" (defScope (top 7)) f cdv A outer s H) ⟨H, []⟩ (fun _ : Unit => [.any, .any]) GE (RKp K H) [.imm x_value, .imm x_sizes] (defBody (top 7)) (B_is_told x_value x_sizes) := by
  unfold B_is_told
  exact db_ret (de_and (de_isi W.n_isinstance W.n_tuple (DE.w (de_var 0))) (de_and (de_cmp (od_in (u65 room)) (DE.w (de_callB cd_len W.n_len (daw_cons (DE.w (de_var 0)) daw_nil) (hs := by exact ⟨rfl, trivial⟩))) (DE.w (de_var 1))) (de_one (de_isi W.n_isinstance W.n_str (DE.w (de_ix (DE.w (de_var 0)) (DE.w de_int))))))) rkp
theorem F_is_told (W : Wd K mg) : CalG P w K mg base 1 "is_told" (spP K g_is_told) :=
  calP W.d_is_told sc_is_told (fun _ _ _ _ _ _ us hl => match us, hl with | [_, _], _ => rfl) (by decide) b_is_told (fun ds o h => by unfold b_is_told at h; split at h <;> first | rfl | cases h)
    fun f cdv A outer s H ds hl room gd => match ds, hl with | [x_value, x_sizes], _ => w_is_told W room gd x_value x_sizes
abbrev nm_is_rising : List Str := ["some", "one", "other"]
theorem nd_is_rising : nm_is_rising.Nodup := by decide +kernel
theorem sc_is_rising : FnScope nm_is_rising ["some"] (defScope (top 8)) := C8.fnScope_by (by decide +kernel)
theorem w_is_rising (W : Wd K mg) {f : Addr} {cdv : Value} {A : Around} {outer : List Env} {s : Shared} {H : Hp} (room : Room 0 (A.deeper (envOfC "is_rising" (defScope (top 8)) s.heap.objs.size f cdv))) (gd : A.guards = some []) (x_some : D) :
    DB (BX P w K mg base nm_is_rising "is_rising" (defScope (top 8)) f cdv A outer s H) ⟨H, []⟩ (fun _ : Unit => [.any, .any, .any]) GE (RKp K H) [.imm x_some, .any, .any] (defBody (top 8)) (B_is_rising x_some) := by
  unfold B_is_rising
  exact db_ret (de_callB (cd_all rfl) W.n_all (daw_cons (DE.w (DF.e (df_lc [("one", 1), ("other", 2)] rfl nd_is_rising (DI.w (di_zip2 W.n_zip (da_cons (de_var 0) (da_cons (de_sl (de_var 0) (.yes de_int) .no) da_nil)))) (fun _ _ _ _ _ => (dg_tup2 rfl (dg_name 1 nd_is_rising) fun _ => (dg_name 2 nd_is_rising))) (fun _ _ _ _ _ p1 => dts_nil) (fun _ _ _ _ _ p1 => (de_cmp (od_lt (u64 room)) (DE.w (de_var 1)) (DE.w (de_var 2))))))) daw_nil) (hs := by exact ⟨rfl, trivial⟩)) rkp
theorem F_is_rising (W : Wd K mg) : CalG P w K mg base 1 "is_rising" (spP K g_is_rising) :=
  calP W.d_is_rising sc_is_rising (fun _ _ _ _ _ _ us hl => match us, hl with | [_], _ => rfl) (by decide) b_is_rising (fun ds o h => by unfold b_is_rising at h; split at h <;> first | rfl | cases h)
    fun f cdv A outer s H ds hl room gd => match ds, hl with | [x_some], _ => w_is_rising W room gd x_some
abbrev nm_is_name : List Str := ["value", "sign"]
theorem nd_is_name : nm_is_name.Nodup := by decide +kernel
theorem sc_is_name : FnScope nm_is_name ["value"] (defScope (top 18)) := C8.fnScope_by (by decide +kernel)
theorem w_is_name (W : Wd K mg) {f : Addr} {cdv : Value} {A : Around} {outer : List Env} {s : Shared} {H : Hp} (room : Room 0 (A.deeper (envOfC "is_name" (defScope (top 18)) s.heap.objs.size f cdv))) (gd : A.guards = some []) (x_value : D) :
    DB (BX P w K mg base nm_is_name "is_name" (defScope (top 18)) f cdv A outer s H) ⟨H, []⟩ (fun _ : Unit => [.any, .any]) GE (RKp K H) [.imm x_value, .any] (defBody (top 18)) (B_is_name x_value) := by
  unfold B_is_name
  exact db_ret (de_and (de_isi W.n_isinstance W.n_str (DE.w (de_var 0))) (de_and (de_chain (od_le (u64 room)) (od_le (u64 room)) (DE.w de_int) (DE.w (de_callB cd_len W.n_len (daw_cons (DE.w (de_var 0)) daw_nil) (hs := by exact ⟨rfl, trivial⟩))) (DE.w (de_gint W.c_MOST_LONG))) (de_one (de_callB (cd_all rfl) W.n_all (daw_cons (DE.w (DF.e (df_lc [("sign", 1)] rfl nd_is_name (DI.w (di_seq (de_var 0))) (fun _ _ _ _ _ => (dg_name 1 nd_is_name)) (fun _ _ _ _ _ p1 => dts_nil) (fun _ _ _ _ _ p1 => (de_cmp (od_in (u65 room)) (DE.w (de_var 1)) (DE.w (de_gstr W.c_LETTERS))))))) daw_nil) (hs := by exact ⟨rfl, trivial⟩))))) rkp
theorem F_is_name (W : Wd K mg) : CalG P w K mg base 1 "is_name" (spP K g_is_name) :=
  calP W.d_is_name sc_is_name (fun _ _ _ _ _ _ us hl => match us, hl with | [_], _ => rfl) (by decide) b_is_name (fun ds o h => by unfold b_is_name at h; split at h <;> first | rfl | cases h)
    fun f cdv A outer s H ds hl room gd => match ds, hl with | [x_value], _ => w_is_name W room gd x_value
abbrev nm_is_goal : List Str := ["value"]
theorem nd_is_goal : nm_is_goal.Nodup := by decide +kernel
theorem sc_is_goal : FnScope nm_is_goal ["value"] (defScope (top 19)) := C8.fnScope_by (by decide +kernel)
theorem w_is_goal (W : Wd K mg) {f : Addr} {cdv : Value} {A : Around} {outer : List Env} {s : Shared} {H : Hp} (room : Room 1 (A.deeper (envOfC "is_goal" (defScope (top 19)) s.heap.objs.size f cdv))) (gd : A.guards = some []) (x_value : D) :
    DB (BX P w K mg base nm_is_goal "is_goal" (defScope (top 19)) f cdv A outer s H) ⟨H, []⟩ (fun _ : Unit => [.any]) GE (RKp K H) [.imm x_value] (defBody (top 19)) (B_is_goal x_value) := by
  unfold B_is_goal
  refine db_ifr (dt_not (dt_val (de_call (F_is_told W) (room.mono (by decide : 1 ≤ 1)) gd (da_cons (de_var 0) (da_cons (de_tup (da_cons de_int da_nil) (hs := by exact ⟨rfl, trivial⟩)) da_nil)) (hs := by exact ⟨rfl, rfl, trivial⟩)))) ?_ ?_
  · exact db_ret de_bool rkp
  refine db_ifr (dt_cmp (od_eq (u64 room)) (DE.w (de_ix (DE.w (de_var 0)) (DE.w de_int))) (DE.w (de_gstr W.c_AT))) ?_ ?_
  · exact db_ret (de_call (F_is_int W) (room.mono (by decide : 1 ≤ 1)) gd (da_cons (de_ix (DE.w (de_var 0)) (DE.w de_int)) (da_cons de_int (da_cons (de_gint W.c_MOST_TICK) da_nil))) (hs := by exact ⟨rfl, rfl, rfl, trivial⟩)) rkp
  exact db_ret (de_and (de_cmp (od_eq (u64 room)) (DE.w (de_ix (DE.w (de_var 0)) (DE.w de_int))) (DE.w (de_gstr W.c_ALSO))) (de_one (de_call (F_is_name W) (room.mono (by decide : 1 ≤ 1)) gd (da_cons (de_ix (DE.w (de_var 0)) (DE.w de_int)) da_nil) (hs := by exact ⟨rfl, trivial⟩)))) rkp
theorem F_is_goal (W : Wd K mg) : CalG P w K mg base 2 "is_goal" (spP K g_is_goal) :=
  calP W.d_is_goal sc_is_goal (fun _ _ _ _ _ _ us hl => match us, hl with | [_], _ => rfl) (by decide) b_is_goal (fun ds o h => by unfold b_is_goal at h; split at h <;> first | rfl | cases h)
    fun f cdv A outer s H ds hl room gd => match ds, hl with | [x_value], _ => w_is_goal W room gd x_value
abbrev nm_are_names : List Str := ["value", "row"]
theorem nd_are_names : nm_are_names.Nodup := by decide +kernel
theorem sc_are_names : FnScope nm_are_names ["value"] (defScope (top 20)) := C8.fnScope_by (by decide +kernel)
theorem w_are_names (W : Wd K mg) {f : Addr} {cdv : Value} {A : Around} {outer : List Env} {s : Shared} {H : Hp} (room : Room 2 (A.deeper (envOfC "are_names" (defScope (top 20)) s.heap.objs.size f cdv))) (gd : A.guards = some []) (x_value : D) :
    DB (BX P w K mg base nm_are_names "are_names" (defScope (top 20)) f cdv A outer s H) ⟨H, []⟩ (fun _ : Unit => [.any, .any]) GE (RKp K H) [.imm x_value, .any] (defBody (top 20)) (B_are_names x_value) := by
  unfold B_are_names
  refine db_ifr (DTw.t (dw_or (dt_not (dt_val (de_isi W.n_isinstance W.n_tuple (DE.w (de_var 0))))) (dw_or1 (dt_cmp (od_gt (u64 room)) (DE.w (de_callB cd_len W.n_len (daw_cons (DE.w (de_var 0)) daw_nil) (hs := by exact ⟨rfl, trivial⟩))) (DE.w (de_gint W.c_MOST_NAMES)))))) ?_ ?_
  · exact db_ret de_bool rkp
  refine db_for (P := D) (fun l2 : Unit => [.imm x_value, .any]) () rfl rfl (di_seq (de_var 0)) ⟨.inl rfl, .inr rfl, trivial⟩ (fun l2 => (dg_name 1 nd_are_names)) (fun l2 p3 => ?_) fun l2 => ?_
  · unfold L1_are_names
    refine db_ifr (DTw.t (dw_or (dt_not (dt_val (de_isi W.n_isinstance W.n_tuple (DE.w (de_var 1))))) (dw_or (dt_cmp (od_ne (u64 room)) (DE.w (de_callB cd_len W.n_len (daw_cons (DE.w (de_var 1)) daw_nil) (hs := by exact ⟨rfl, trivial⟩))) (DE.w de_int)) (dw_or (dt_not (dt_val (de_call (F_is_name W) (room.mono (by decide : 1 ≤ 2)) gd (da_cons (de_ix (DE.w (de_var 1)) (DE.w de_int)) da_nil) (hs := by exact ⟨rfl, trivial⟩)))) (dw_or1 (dt_not (dt_val (de_call (F_is_goal W) (room.mono (by decide : 2 ≤ 2)) gd (da_cons (de_ix (DE.w (de_var 1)) (DE.w de_int)) da_nil) (hs := by exact ⟨rfl, trivial⟩))))))))) ?_ ?_
    · exact db_ret de_bool rkp
    exact db_nil () ⟨.inl rfl, .inr rfl, trivial⟩
  exact db_ret (de_call (F_is_rising W) (room.mono (by decide : 1 ≤ 2)) gd (da_cons (DF.e (df_lc [("row", 1)] rfl nd_are_names (DI.w (di_seq (de_var 0))) (fun _ _ _ _ _ => (dg_name 1 nd_are_names)) (fun _ _ _ _ _ p6 => dts_nil) (fun _ _ _ _ _ p6 => (de_ix (DE.w (de_var 1)) (DE.w de_int))))) da_nil) (hs := by exact ⟨rfl, trivial⟩)) rkp
theorem F_are_names (W : Wd K mg) : CalG P w K mg base 3 "are_names" (spP K g_are_names) :=
  calP W.d_are_names sc_are_names (fun _ _ _ _ _ _ us hl => match us, hl with | [_], _ => rfl) (by decide) b_are_names (fun ds o h => by unfold b_are_names at h; split at h <;> first | rfl | cases h)
    fun f cdv A outer s H ds hl room gd => match ds, hl with | [x_value], _ => w_are_names W room gd x_value
abbrev nm_look_at_names : List Str := ["names"]
theorem nd_look_at_names : nm_look_at_names.Nodup := by decide +kernel
theorem sc_look_at_names : FnScope nm_look_at_names ["names"] (defScope (top 21)) := C8.fnScope_by (by decide +kernel)
theorem w_look_at_names (W : Wd K mg) {f : Addr} {cdv : Value} {A : Around} {outer : List Env} {s : Shared} {H : Hp} (room : Room 3 (A.deeper (envOfC "look_at_names" (defScope (top 21)) s.heap.objs.size f cdv))) (gd : A.guards = some []) (x_names : D) :
    DB (BX P w K mg base nm_look_at_names "look_at_names" (defScope (top 21)) f cdv A outer s H) ⟨H, []⟩ (fun _ : Unit => [.any]) GE (RKp K H) [.imm x_names] (defBody (top 21)) (B_look_at_names x_names) := by
  unfold B_look_at_names
  refine db_ifr (dt_not (dt_val (de_call (F_are_names W) (room.mono (by decide : 3 ≤ 3)) gd (da_cons (de_var 0) da_nil) (hs := by exact ⟨rfl, trivial⟩)))) ?_ ?_
  · exact db_none
  exact db_nil () ⟨.inr rfl, trivial⟩
theorem F_look_at_names (W : Wd K mg) : CalG P w K mg base 4 "look_at_names" (spP K g_look_at_names) :=
  calP W.d_look_at_names sc_look_at_names (fun _ _ _ _ _ _ us hl => match us, hl with | [_], _ => rfl) (by decide) b_look_at_names (fun ds o h => by unfold b_look_at_names at h; split at h <;> first | rfl | cases h)
    fun f cdv A outer s H ds hl room gd => match ds, hl with | [x_names], _ => w_look_at_names W room gd x_names
abbrev nm_told_lookup : List Str := ["names", "name", "known", "found", "goal"]
theorem nd_told_lookup : nm_told_lookup.Nodup := by decide +kernel
theorem sc_told_lookup : FnScope nm_told_lookup ["names", "name"] (defScope (top 22)) := C8.fnScope_by (by decide +kernel)
theorem w_told_lookup (W : Wd K mg) {f : Addr} {cdv : Value} {A : Around} {outer : List Env} {s : Shared} {H : Hp} (room : Room 0 (A.deeper (envOfC "told_lookup" (defScope (top 22)) s.heap.objs.size f cdv))) (gd : A.guards = some []) (x_names : D) (x_name : D) :
    DB (BX P w K mg base nm_told_lookup "told_lookup" (defScope (top 22)) f cdv A outer s H) ⟨H, []⟩ (fun _ : Unit => [.any, .any, .any, .any, .any]) GE (RKp K H) [.imm x_names, .imm x_name, .any, .any, .any] (defBody (top 22)) (B_told_lookup x_names x_name) := by
  unfold B_told_lookup
  refine dbx_par (T := Unit) (G := fun _ => [.imm x_names, .imm x_name, .any, .any, .any]) (t := ()) .imm .own 2 3 rfl nd_told_lookup (dxk_imm (dx_lift fun _ => (DD.e (dd_callT (cdd_dict rfl) W.n_dict (daw_cons (DE.w (de_var 0)) daw_nil) (hs := by exact ⟨rfl, trivial⟩))))) (dxk_own (dxf_lift fun _ => (df_lst (da_cons (de_var 1) da_nil) (hs := by exact ⟨rfl, trivial⟩)))) fun v1 => ?_
  refine db_while (fun l2 : List D => [.imm x_names, .imm x_name, .imm v1.1.1, .own l2, .any]) v1.1.2 1000000 rfl ⟨.inl rfl, .inl rfl, .inl rfl, .inl rfl, .inr rfl, trivial⟩ (fun l2 => (dt_val de_bool)) (fun l2 => ?_) fun l2 => ?_
  · unfold L1_told_lookup
    refine db_asg 4 nd_told_lookup (de_dget1 (u100 room) (DE.w (de_var 2)) (de_ix (dw_own 3) (DE.w (de_un ud_neg de_int)))) fun v9 => ?_
    refine db_ifr (dt_cmp od_is (DE.w (de_var 4)) (DE.w de_none)) ?_ ?_
    · exact db_ret (de_tup (da_cons (de_gstr W.c_LOST) (da_cons (de_ix (dw_own 3) (DE.w (de_un ud_neg de_int))) (da_cons (de_callT cd_tuple W.n_tuple (daw_cons (dw_own 3) daw_nil) (hs := by exact ⟨rfl, trivial⟩)) da_nil))) (hs := by exact ⟨rfl, rfl, rfl, trivial⟩)) rkp
    refine db_ifr (dt_cmp (od_eq (u64 room)) (DE.w (de_ix (DE.w (de_var 4)) (DE.w de_int))) (DE.w (de_gstr W.c_AT))) ?_ ?_
    · exact db_ret (de_tup (da_cons (de_gstr W.c_AT) (da_cons (de_ix (DE.w (de_var 4)) (DE.w de_int)) (da_cons (de_callT cd_tuple W.n_tuple (daw_cons (dw_own 3) daw_nil) (hs := by exact ⟨rfl, trivial⟩)) da_nil))) (hs := by exact ⟨rfl, rfl, rfl, trivial⟩)) rkp
    refine db_ifr (dt_cmp (od_in (u65 room)) (DE.w (de_ix (DE.w (de_var 4)) (DE.w de_int))) (dw_own 3)) ?_ ?_
    · exact db_ret (de_tup (da_cons (de_gstr W.c_ROUND) (da_cons (de_ix (DE.w (de_var 4)) (DE.w de_int)) (da_cons (de_callT cd_tuple W.n_tuple (daw_cons (dw_own 3) daw_nil) (hs := by exact ⟨rfl, trivial⟩)) da_nil))) (hs := by exact ⟨rfl, rfl, rfl, trivial⟩)) rkp
    refine db_append 3 rfl (de_ix (DE.w (de_var 4)) (DE.w de_int)) fun v13 => ?_
    exact db_nil v13 ⟨.inl rfl, .inl rfl, .inl rfl, .inl rfl, .inr rfl, trivial⟩
  exact db_nil () ⟨.inr rfl, .inr rfl, .inr rfl, .inr rfl, .inr rfl, trivial⟩
theorem F_told_lookup (W : Wd K mg) : CalG P w K mg base 1 "told_lookup" (spP K g_told_lookup) :=
  calP W.d_told_lookup sc_told_lookup (fun _ _ _ _ _ _ us hl => match us, hl with | [_, _], _ => rfl) (by decide) b_told_lookup (fun ds o h => by unfold b_told_lookup at h; split at h <;> first | rfl | cases h)
    fun f cdv A outer s H ds hl room gd => match ds, hl with | [x_names, x_name], _ => w_told_lookup W room gd x_names x_name
abbrev nm_lookup : List Str := ["names", "name"]
theorem nd_lookup : nm_lookup.Nodup := by decide +kernel
theorem sc_lookup : FnScope nm_lookup ["names", "name"] (defScope (top 23)) := C8.fnScope_by (by decide +kernel)
theorem w_lookup (W : Wd K mg) {f : Addr} {cdv : Value} {A : Around} {outer : List Env} {s : Shared} {H : Hp} (room : Room 4 (A.deeper (envOfC "lookup" (defScope (top 23)) s.heap.objs.size f cdv))) (gd : A.guards = some []) (x_names : D) (x_name : D) :
    DB (BX P w K mg base nm_lookup "lookup" (defScope (top 23)) f cdv A outer s H) ⟨H, []⟩ (fun _ : Unit => [.any, .any]) GE (RKp K H) [.imm x_names, .imm x_name] (defBody (top 23)) (B_lookup x_names x_name) := by
  unfold B_lookup
  refine db_expr (de_call (F_look_at_names W) (room.mono (by decide : 4 ≤ 4)) gd (da_cons (de_var 0) da_nil) (hs := by exact ⟨rfl, trivial⟩)) ?_
  refine db_ifr (dt_not (dt_val (de_call (F_is_name W) (room.mono (by decide : 1 ≤ 4)) gd (da_cons (de_var 1) da_nil) (hs := by exact ⟨rfl, trivial⟩)))) ?_ ?_
  · exact db_none
  exact db_ret (de_call (F_told_lookup W) (room.mono (by decide : 1 ≤ 4)) gd (da_cons (de_var 0) (da_cons (de_var 1) da_nil)) (hs := by exact ⟨rfl, rfl, trivial⟩)) rkp
theorem F_lookup (W : Wd K mg) : CalG P w K mg base 5 "lookup" (spP K g_lookup) :=
  calP W.d_lookup sc_lookup (fun _ _ _ _ _ _ us hl => match us, hl with | [_, _], _ => rfl) (by decide) b_lookup (fun ds o h => by unfold b_lookup at h; split at h <;> first | rfl | cases h)
    fun f cdv A outer s H ds hl room gd => match ds, hl with | [x_names, x_name], _ => w_lookup W room gd x_names x_name
abbrev nm_bad_names : List Str := ["names", "name", "goal"]
theorem nd_bad_names : nm_bad_names.Nodup := by decide +kernel
theorem sc_bad_names : FnScope nm_bad_names ["names"] (defScope (top 24)) := C8.fnScope_by (by decide +kernel)
theorem w_bad_names (W : Wd K mg) {f : Addr} {cdv : Value} {A : Around} {outer : List Env} {s : Shared} {H : Hp} (room : Room 4 (A.deeper (envOfC "bad_names" (defScope (top 24)) s.heap.objs.size f cdv))) (gd : A.guards = some []) (x_names : D) :
    DB (BX P w K mg base nm_bad_names "bad_names" (defScope (top 24)) f cdv A outer s H) ⟨H, []⟩ (fun _ : Unit => [.any, .any, .any]) GE (RKp K H) [.imm x_names, .any, .any] (defBody (top 24)) (B_bad_names x_names) := by
  unfold B_bad_names
  refine db_expr (de_call (F_look_at_names W) (room.mono (by decide : 4 ≤ 4)) gd (da_cons (de_var 0) da_nil) (hs := by exact ⟨rfl, trivial⟩)) ?_
  exact db_ret (de_callT cd_tuple W.n_tuple (daw_cons (DE.w (DF.e (df_lc [("name", 1), ("goal", 2)] rfl nd_bad_names (DI.w (di_seq (de_var 0))) (fun _ _ _ _ _ => (dg_tup2 rfl (dg_name 1 nd_bad_names) fun _ => (dg_name 2 nd_bad_names))) (fun _ _ _ _ _ p1 => dts_one (dt_cmp (od_ne (u64 room)) (DE.w (de_ix (DE.w (de_call (F_told_lookup W) (room.mono (by decide : 1 ≤ 4)) gd (da_cons (de_var 0) (da_cons (de_var 1) da_nil)) (hs := by exact ⟨rfl, rfl, trivial⟩))) (DE.w de_int))) (DE.w (de_gstr W.c_AT)))) (fun _ _ _ _ _ p1 => (de_var 1))))) daw_nil) (hs := by exact ⟨rfl, trivial⟩)) rkp
theorem F_bad_names (W : Wd K mg) : CalG P w K mg base 5 "bad_names" (spP K g_bad_names) :=
  calP W.d_bad_names sc_bad_names (fun _ _ _ _ _ _ us hl => match us, hl with | [_], _ => rfl) (by decide) b_bad_names (fun ds o h => by unfold b_bad_names at h; split at h <;> first | rfl | cases h)
    fun f cdv A outer s H ds hl room gd => match ds, hl with | [x_names], _ => w_bad_names W room gd x_names
abbrev nm_names_at : List Str := ["names", "number", "name", "goal"]
theorem nd_names_at : nm_names_at.Nodup := by decide +kernel
theorem sc_names_at : FnScope nm_names_at ["names", "number"] (defScope (top 25)) := C8.fnScope_by (by decide +kernel)
theorem w_names_at (W : Wd K mg) {f : Addr} {cdv : Value} {A : Around} {outer : List Env} {s : Shared} {H : Hp} (room : Room 4 (A.deeper (envOfC "names_at" (defScope (top 25)) s.heap.objs.size f cdv))) (gd : A.guards = some []) (x_names : D) (x_number : D) :
    DB (BX P w K mg base nm_names_at "names_at" (defScope (top 25)) f cdv A outer s H) ⟨H, []⟩ (fun _ : Unit => [.any, .any, .any, .any]) GE (RKp K H) [.imm x_names, .imm x_number, .any, .any] (defBody (top 25)) (B_names_at x_names x_number) := by
  unfold B_names_at
  refine db_expr (de_call (F_look_at_names W) (room.mono (by decide : 4 ≤ 4)) gd (da_cons (de_var 0) da_nil) (hs := by exact ⟨rfl, trivial⟩)) ?_
  refine db_ifr (dt_not (dt_val (de_call (F_is_int W) (room.mono (by decide : 1 ≤ 4)) gd (da_cons (de_var 1) (da_cons de_int (da_cons (de_gint W.c_MOST_TICK) da_nil))) (hs := by exact ⟨rfl, rfl, rfl, trivial⟩)))) ?_ ?_
  · exact db_none
  exact db_ret (de_callT cd_tuple W.n_tuple (daw_cons (DE.w (DF.e (df_lc [("name", 2), ("goal", 3)] rfl nd_names_at (DI.w (di_seq (de_var 0))) (fun _ _ _ _ _ => (dg_tup2 rfl (dg_name 2 nd_names_at) fun _ => (dg_name 3 nd_names_at))) (fun _ _ _ _ _ p2 => dts_one (dt_cmp (od_eq (u64 room)) (DE.w (de_sl (de_call (F_told_lookup W) (room.mono (by decide : 1 ≤ 4)) gd (da_cons (de_var 0) (da_cons (de_var 2) da_nil)) (hs := by exact ⟨rfl, rfl, trivial⟩)) .no (.yes de_int))) (DE.w (de_tup (da_cons (de_gstr W.c_AT) (da_cons (de_var 1) da_nil)) (hs := by exact ⟨rfl, rfl, trivial⟩))))) (fun _ _ _ _ _ p2 => (de_var 2))))) daw_nil) (hs := by exact ⟨rfl, trivial⟩)) rkp
theorem F_names_at (W : Wd K mg) : CalG P w K mg base 5 "names_at" (spP K g_names_at) :=
  calP W.d_names_at sc_names_at (fun _ _ _ _ _ _ us hl => match us, hl with | [_, _], _ => rfl) (by decide) b_names_at (fun ds o h => by unfold b_names_at at h; split at h <;> first | rfl | cases h)
    fun f cdv A outer s H ds hl room gd => match ds, hl with | [x_names, x_number], _ => w_names_at W room gd x_names x_number
abbrev nm_straight : List Str := ["names", "found", "name", "goal", "told"]
theorem nd_straight : nm_straight.Nodup := by decide +kernel
theorem sc_straight : FnScope nm_straight ["names"] (defScope (top 26)) := C8.fnScope_by (by decide +kernel)
theorem w_straight (W : Wd K mg) {f : Addr} {cdv : Value} {A : Around} {outer : List Env} {s : Shared} {H : Hp} (room : Room 4 (A.deeper (envOfC "straight" (defScope (top 26)) s.heap.objs.size f cdv))) (gd : A.guards = some []) (x_names : D) :
    DB (BX P w K mg base nm_straight "straight" (defScope (top 26)) f cdv A outer s H) ⟨H, []⟩ (fun _ : Unit => [.any, .any, .any, .any, .any]) GE (RKp K H) [.imm x_names, .any, .any, .any, .any] (defBody (top 26)) (B_straight x_names) := by
  unfold B_straight
  refine db_expr (de_call (F_look_at_names W) (room.mono (by decide : 4 ≤ 4)) gd (da_cons (de_var 0) da_nil) (hs := by exact ⟨rfl, trivial⟩)) ?_
  refine db_asgF 1 nd_straight (df_lst da_nil (hs := by exact trivial)) fun v1 => ?_
  refine db_for (P := (D × D)) (fun l2 : List D => [.imm x_names, .own l2, .any, .any, .any]) v1 rfl rfl (di_seq (de_var 0)) ⟨.inl rfl, .inl rfl, .inr rfl, .inr rfl, .inr rfl, trivial⟩ (fun l2 => (dg_tup2 rfl (dg_name 2 nd_straight) fun _ => (dg_name 3 nd_straight))) (fun l2 p3 => ?_) fun l2 => ?_
  · unfold L1_straight
    refine db_asg 4 nd_straight (de_call (F_told_lookup W) (room.mono (by decide : 1 ≤ 4)) gd (da_cons (de_var 0) (da_cons (de_var 2) da_nil)) (hs := by exact ⟨rfl, rfl, trivial⟩)) fun v9 => ?_
    refine db_if (fun n12 : List D => [.imm x_names, .own n12, .imm p3.1, .imm p3.2, .imm v9]) (dt_cmp (od_eq (u64 room)) (DE.w (de_ix (DE.w (de_var 4)) (DE.w de_int))) (DE.w (de_gstr W.c_AT))) ?_ ?_ fun n12 => ?_
    · refine db_append 1 rfl (de_tup (da_cons (de_var 2) (da_cons (de_tup (da_cons (de_gstr W.c_AT) (da_cons (de_ix (DE.w (de_var 4)) (DE.w de_int)) da_nil)) (hs := by exact ⟨rfl, rfl, trivial⟩)) da_nil)) (hs := by exact ⟨rfl, rfl, trivial⟩)) fun v13 => ?_
      exact db_nil v13 ⟨.inl rfl, .inl rfl, .inl rfl, .inl rfl, .inl rfl, trivial⟩
    · exact db_nil l2 ⟨.inl rfl, .inl rfl, .inl rfl, .inl rfl, .inl rfl, trivial⟩
    exact db_nil n12 ⟨.inl rfl, .inl rfl, .inr rfl, .inr rfl, .inr rfl, trivial⟩
  exact db_ret (de_callT cd_tuple W.n_tuple (daw_cons (dw_own 1) daw_nil) (hs := by exact ⟨rfl, trivial⟩)) rkp
theorem F_straight (W : Wd K mg) : CalG P w K mg base 5 "straight" (spP K g_straight) :=
  calP W.d_straight sc_straight (fun _ _ _ _ _ _ us hl => match us, hl with | [_], _ => rfl) (by decide) b_straight (fun ds o h => by unfold b_straight at h; split at h <;> first | rfl | cases h)
    fun f cdv A outer s H ds hl room gd => match ds, hl with | [x_names], _ => w_straight W room gd x_names
abbrev nm__law_pot : List Str := ["script", "place", "cell", "own", "small"]
theorem nd__law_pot : nm__law_pot.Nodup := by decide +kernel
theorem sc__law_pot : FnScope nm__law_pot ["script", "place"] (defScope (top 28)) := C8.fnScope_by (by decide +kernel)
theorem w__law_pot (W : Wd K mg) {f : Addr} {cdv : Value} {A : Around} {outer : List Env} {s : Shared} {H : Hp} (room : Room 0 (A.deeper (envOfC "_law_pot" (defScope (top 28)) s.heap.objs.size f cdv))) (gd : A.guards = some []) (x_script : D) (x_place : D) :
    DB (BX P w K mg base nm__law_pot "_law_pot" (defScope (top 28)) f cdv A outer s H) ⟨H, []⟩ (fun _ : Unit => [.any, .any, .any, .any, .any]) GE (RKf K H) [.imm x_script, .imm x_place, .any, .any, .any] (defBody (top 28)) (B__law_pot x_script x_place) := by
  unfold B__law_pot
  refine db_asg 2 nd__law_pot (de_ite (dt_cmp (od_lt (u64 room)) (DE.w (de_var 1)) (DE.w (de_callB cd_len W.n_len (daw_cons (DE.w (de_var 0)) daw_nil) (hs := by exact ⟨rfl, trivial⟩)))) (de_ix (DE.w (de_var 0)) (DE.w (de_var 1))) (de_plus (DE.w (de_plus (DE.w (de_op od_mod (DE.w (de_callT cd_int W.n_int (daw_cons (DE.w (de_callB (cd_sum rfl) W.n_sum (daw_cons (DE.w (de_sl (de_var 0) .no (.yes de_int))) daw_nil) (hs := by exact ⟨rfl, trivial⟩))) daw_nil) (hs := by exact ⟨rfl, trivial⟩))) (DE.w de_int))) (DE.w (de_op od_mul (DE.w de_int) (DE.w (de_var 1)))))) (DE.w de_int))) fun v1 => ?_
  refine db_asg 3 nd__law_pot (de_op od_mul (DE.w (de_op od_mod (DE.w (de_callT cd_int W.n_int (daw_cons (DE.w (de_callB cd_abs W.n_abs (daw_cons (DE.w (de_var 2)) daw_nil) (hs := by exact ⟨rfl, trivial⟩))) daw_nil) (hs := by exact ⟨rfl, trivial⟩))) (DE.w (de_op od_pow (DE.w (de_op od_pow (DE.w de_int) (DE.w de_int))) (DE.w de_int))))) (DE.w (de_callT cd_int W.n_int (daw_cons (DE.w (de_cmp (od_ge (u64 room)) (DE.w (de_callB cd_abs W.n_abs (daw_cons (DE.w (de_var 2)) daw_nil) (hs := by exact ⟨rfl, trivial⟩))) (DE.w (de_op od_pow (DE.w de_int) (DE.w de_int))))) daw_nil) (hs := by exact ⟨rfl, trivial⟩)))) fun v2 => ?_
  refine db_asg 4 nd__law_pot (de_op od_mod (DE.w (de_callT cd_int W.n_int (daw_cons (DE.w (de_var 2)) daw_nil) (hs := by exact ⟨rfl, trivial⟩))) (DE.w de_int)) fun v3 => ?_
  exact db_retF (df_lst (da_cons (de_var 3) (da_cons (de_op od_mod (DE.w (de_callT cd_int W.n_int (daw_cons (DE.w (de_plus (DE.w (de_plus (DE.w (de_op od_mul (DE.w (de_var 4)) (DE.w de_int))) (DE.w (de_op od_mul (DE.w (de_op od_mul (DE.w de_int) (DE.w (de_var 1)))) (DE.w (de_var 1)))))) (DE.w de_int))) daw_nil) (hs := by exact ⟨rfl, trivial⟩))) (DE.w de_int)) (da_cons de_int da_nil))) (hs := by exact ⟨rfl, rfl, rfl, trivial⟩)) rkf
theorem F__law_pot (W : Wd K mg) : CalG P w K mg base 1 "_law_pot" (spF K g__law_pot) :=
  calF W.d__law_pot sc__law_pot (fun _ _ _ _ _ _ us hl => match us, hl with | [_, _], _ => rfl) (by decide) b__law_pot (fun ds o h => by unfold b__law_pot at h; split at h <;> first | rfl | cases h)
    fun f cdv A outer s H ds hl room gd => match ds, hl with | [x_script, x_place], _ => w__law_pot W room gd x_script x_place
abbrev nm__law_take : List Str := ["pot", "upto", "digit", "prime", "blend"]
theorem nd__law_take : nm__law_take.Nodup := by decide +kernel
theorem sc__law_take : FnScope nm__law_take ["pot", "upto"] (defScope (top 29)) := C8.fnScope_by (by decide +kernel)
theorem w__law_take (W : Wd K mg) {f : Addr} {cdv : Value} {A : Around} {outer : List Env} {s : Shared} {H : Hp} {a : Addr} (room : Room 0 (A.deeper (envOfC "_law_take" (defScope (top 29)) s.heap.objs.size f cdv))) (gd : A.guards = some []) (x_pot : List D) (x_upto : D) :
    DB (BX P w K mg base nm__law_take "_law_take" (defScope (top 29)) f cdv A outer s H) ⟨H, [(0, a)]⟩ (fun qs : List D => [.own qs, .any, .any, .any, .any]) GE (RKm K H a) [.own x_pot, .imm x_upto, .any, .any, .any] (defBody (top 29)) (B__law_take x_pot x_upto) := by
  unfold B__law_take
  refine db_ifr (dt_cmp (od_gt (u64 room)) (DE.w (de_ix (dw_own 0) (DE.w de_int))) (DE.w de_int)) ?_ ?_
  · refine db_asg 2 nd__law_take (de_op od_mod (DE.w (de_callT cd_int W.n_int (daw_cons (DE.w (de_ix (dw_own 0) (DE.w de_int))) daw_nil) (hs := by exact ⟨rfl, trivial⟩))) (DE.w (de_var 1))) fun v2 => ?_
    refine db_set 0 (de_op od_fdiv (DE.w (de_ix (dw_own 0) (DE.w de_int))) (DE.w (de_var 1))) de_int fun v3 => ?_
    exact db_ret (de_var 2) (rkm rfl)
  refine db_set 0 (de_plus (DE.w (de_ix (dw_own 0) (DE.w de_int))) (DE.w de_int)) de_int fun v4 => ?_
  refine db_asg 3 nd__law_take (de_ix (DE.w (DF.e (df_lst (da_cons de_int (da_cons de_int (da_cons de_int (da_cons de_int (da_cons de_int da_nil))))) (hs := by exact ⟨rfl, rfl, rfl, rfl, rfl, trivial⟩)))) (DE.w (de_op od_mod (DE.w (de_callT cd_int W.n_int (daw_cons (DE.w (de_ix (dw_own 0) (DE.w de_int))) daw_nil) (hs := by exact ⟨rfl, trivial⟩))) (DE.w de_int)))) fun v5 => ?_
  refine db_asg 4 nd__law_take (de_op od_mod (DE.w (de_callT cd_int W.n_int (daw_cons (DE.w (de_op od_pow (DE.w (de_callT cd_int W.n_int (daw_cons (DE.w (de_plus (DE.w (de_plus (DE.w (de_ix (dw_own 0) (DE.w de_int))) (DE.w (de_op od_mul (DE.w (de_op od_mul (DE.w de_int) (DE.w (de_ix (dw_own 0) (DE.w de_int))))) (DE.w (de_ix (dw_own 0) (DE.w de_int))))))) (DE.w de_int))) daw_nil) (hs := by exact ⟨rfl, trivial⟩))) (DE.w de_int))) daw_nil) (hs := by exact ⟨rfl, trivial⟩))) (DE.w (de_var 3))) fun v6 => ?_
  refine db_asg 4 nd__law_take (de_op od_mod (DE.w (de_callT cd_int W.n_int (daw_cons (DE.w (de_op od_mul (DE.w (de_var 4)) (DE.w (de_plus (DE.w (de_op od_mod (DE.w (de_callT cd_int W.n_int (daw_cons (DE.w (de_var 4)) daw_nil) (hs := by exact ⟨rfl, trivial⟩))) (DE.w de_int))) (DE.w (de_op od_mul (DE.w de_int) (DE.w (de_ix (dw_own 0) (DE.w de_int))))))))) daw_nil) (hs := by exact ⟨rfl, trivial⟩))) (DE.w de_int)) fun v7 => ?_
  exact db_ret (de_op od_mod (DE.w (de_callT cd_int W.n_int (daw_cons (DE.w (de_op od_fdiv (DE.w (de_var 4)) (DE.w de_int))) daw_nil) (hs := by exact ⟨rfl, trivial⟩))) (DE.w (de_var 1))) (rkm rfl)
theorem F__law_take (W : Wd K mg) : CalG P w K mg base 1 "_law_take" (spM K g__law_take) :=
  calM W.d__law_take sc__law_take (fun _ _ _ _ _ _ us hl => match us, hl with | [_, _], _ => rfl) (by decide) b__law_take (fun qs ds o h => by unfold b__law_take at h; split at h <;> first | rfl | cases h)
    fun f cdv A outer s H a qs ds hl room gd => match ds, hl with | [x_upto], _ => w__law_take W room gd qs x_upto
abbrev nm__law_of : List Str := ["pot", "some"]
theorem nd__law_of : nm__law_of.Nodup := by decide +kernel
theorem sc__law_of : FnScope nm__law_of ["pot", "some"] (defScope (top 30)) := C8.fnScope_by (by decide +kernel)
theorem w__law_of (W : Wd K mg) {f : Addr} {cdv : Value} {A : Around} {outer : List Env} {s : Shared} {H : Hp} {a : Addr} (room : Room 1 (A.deeper (envOfC "_law_of" (defScope (top 30)) s.heap.objs.size f cdv))) (gd : A.guards = some []) (x_pot : List D) (x_some : D) :
    DB (BX P w K mg base nm__law_of "_law_of" (defScope (top 30)) f cdv A outer s H) ⟨H, [(0, a)]⟩ (fun qs : List D => [.own qs, .any]) GE (RKm K H a) [.own x_pot, .imm x_some] (defBody (top 30)) (B__law_of x_pot x_some) := by
  unfold B__law_of
  exact dbx_ret (G := fun p => [.own p, .imm x_some]) (t := x_pot) (dx_ix (dx_lift fun p => (de_var 1)) (dx_callM 0 (F__law_take W) (room.mono (by decide : 1 ≤ 1)) gd (dxa_cons (dx_lift fun p => (de_callB cd_len W.n_len (daw_cons (DE.w (de_var 1)) daw_nil) (hs := by exact ⟨rfl, trivial⟩))) dxa_nil) (hs := by exact ⟨rfl, rfl, trivial⟩))) fun d _ => rkm rfl d
theorem F__law_of (W : Wd K mg) : CalG P w K mg base 2 "_law_of" (spM K g__law_of) :=
  calM W.d__law_of sc__law_of (fun _ _ _ _ _ _ us hl => match us, hl with | [_, _], _ => rfl) (by decide) b__law_of (fun qs ds o h => by unfold b__law_of at h; split at h <;> first | rfl | cases h)
    fun f cdv A outer s H a qs ds hl room gd => match ds, hl with | [x_some], _ => w__law_of W room gd qs x_some
abbrev nm__law_cells : List Str := ["script", "most"]
theorem nd__law_cells : nm__law_cells.Nodup := by decide +kernel
theorem sc__law_cells : FnScope nm__law_cells ["script", "most"] (defScope (top 31)) := C8.fnScope_by (by decide +kernel)
theorem w__law_cells (W : Wd K mg) {f : Addr} {cdv : Value} {A : Around} {outer : List Env} {s : Shared} {H : Hp} (room : Room 0 (A.deeper (envOfC "_law_cells" (defScope (top 31)) s.heap.objs.size f cdv))) (gd : A.guards = some []) (x_script : D) (x_most : D) :
    DB (BX P w K mg base nm__law_cells "_law_cells" (defScope (top 31)) f cdv A outer s H) ⟨H, []⟩ (fun _ : Unit => [.any, .any]) GE (RKf K H) [.imm x_script, .imm x_most] (defBody (top 31)) (B__law_cells x_script x_most) := by
  unfold B__law_cells
  exact db_retF (df_lr1 rfl W.n_list W.n_range (de_callB (cd_max rfl (u100 room)) W.n_max (daw_cons (DE.w de_int) (daw_cons (DE.w (de_callB (cd_min rfl (u100 room)) W.n_min (daw_cons (DE.w (de_var 1)) (daw_cons (DE.w (de_callB cd_len W.n_len (daw_cons (DE.w (de_var 0)) daw_nil) (hs := by exact ⟨rfl, trivial⟩))) daw_nil)) (hs := by exact ⟨rfl, rfl, trivial⟩))) daw_nil)) (hs := by exact ⟨rfl, rfl, trivial⟩))) rkf
theorem F__law_cells (W : Wd K mg) : CalG P w K mg base 1 "_law_cells" (spF K g__law_cells) :=
  calF W.d__law_cells sc__law_cells (fun _ _ _ _ _ _ us hl => match us, hl with | [_, _], _ => rfl) (by decide) b__law_cells (fun ds o h => by unfold b__law_cells at h; split at h <;> first | rfl | cases h)
    fun f cdv A outer s H ds hl room gd => match ds, hl with | [x_script, x_most], _ => w__law_cells W room gd x_script x_most
abbrev nm__law_lot : List Str := ["pot", "sign", "other", "many", "found", "at", "way", "goal"]
theorem nd__law_lot : nm__law_lot.Nodup := by decide +kernel
theorem sc__law_lot : FnScope nm__law_lot ["pot", "sign", "other", "many"] (defScope (top 32)) := C8.fnScope_by (by decide +kernel)
theorem w__law_lot (W : Wd K mg) {f : Addr} {cdv : Value} {A : Around} {outer : List Env} {s : Shared} {H : Hp} {a : Addr} (room : Room 1 (A.deeper (envOfC "_law_lot" (defScope (top 32)) s.heap.objs.size f cdv))) (gd : A.guards = some []) (x_pot : List D) (x_sign : D) (x_other : D) (x_many : D) :
    DB (BX P w K mg base nm__law_lot "_law_lot" (defScope (top 32)) f cdv A outer s H) ⟨H, [(0, a)]⟩ (fun qs : List D => [.own qs, .any, .any, .any, .any, .any, .any, .any]) GE (RKm K H a) [.own x_pot, .imm x_sign, .imm x_other, .imm x_many, .any, .any, .any, .any] (defBody (top 32)) (B__law_lot x_pot x_sign x_other x_many) := by
  unfold B__law_lot
  refine db_asgF 4 nd__law_lot (df_lst da_nil (hs := by exact trivial)) fun v1 => ?_
  refine db_for (P := D) (fun l2 : List D × List D => [.own l2.1, .imm x_sign, .imm x_other, .imm x_many, .own l2.2, .any, .any, .any]) (x_pot, v1) rfl rfl (di_range1 W.n_range (de_var 3)) ⟨.inl rfl, .inl rfl, .inl rfl, .inl rfl, .inl rfl, .inr rfl, .inr rfl, .inr rfl, trivial⟩ (fun l2 => (dg_name 5 nd__law_lot)) (fun l2 p3 => ?_) fun l2 => ?_
  · unfold L1__law_lot
    refine dbx_asg (G := fun p => [.own p, .imm x_sign, .imm x_other, .imm x_many, .own l2.2, .imm p3, .any, .any]) (t := l2.1) .imm 6 nd__law_lot (dxk_imm (dx_callM 0 (F__law_take W) (room.mono (by decide : 1 ≤ 1)) gd (dxa_cons (dx_lift fun p => de_int) dxa_nil) (hs := by exact ⟨rfl, rfl, trivial⟩))) fun v33 => ?_
    refine db_if (fun n42 : List D × D => [.own n42.1, .imm x_sign, .imm x_other, .imm x_many, .own l2.2, .imm p3, .imm v33.1, .imm n42.2]) (dt_cmp (od_lt (u64 room)) (DE.w (de_var 6)) (DE.w de_int)) ?_ ?_ fun n42 => ?_
    · refine dbx_asg (G := fun p => [.own p, .imm x_sign, .imm x_other, .imm x_many, .own l2.2, .imm p3, .imm v33.1, .any]) (t := v33.2) .imm 7 nd__law_lot (dxk_imm (dx_tup (dxa_cons (dx_lift fun p => de_str) (dxa_cons (dx_callT cd_int W.n_int (dxa_cons (dx_callM 0 (F__law_take W) (room.mono (by decide : 1 ≤ 1)) gd (dxa_cons (dx_lift fun p => de_int) dxa_nil) (hs := by exact ⟨rfl, rfl, trivial⟩)) dxa_nil) (hs := by exact ⟨rfl, trivial⟩)) dxa_nil)) (hs := by exact ⟨rfl, rfl, trivial⟩))) fun v43 => ?_
      exact db_nil (v43.2, v43.1) ⟨.inl rfl, .inl rfl, .inl rfl, .inl rfl, .inl rfl, .inl rfl, .inl rfl, .inl rfl, trivial⟩
    · refine db_if (fun n47 : List D × D => [.own n47.1, .imm x_sign, .imm x_other, .imm x_many, .own l2.2, .imm p3, .imm v33.1, .imm n47.2]) (dt_cmp (od_lt (u64 room)) (DE.w (de_var 6)) (DE.w de_int)) ?_ ?_ fun n47 => ?_
      · refine dbx_asg (G := fun p => [.own p, .imm x_sign, .imm x_other, .imm x_many, .own l2.2, .imm p3, .imm v33.1, .any]) (t := v33.2) .imm 7 nd__law_lot (dxk_imm (dx_tup (dxa_cons (dx_lift fun p => de_str) (dxa_cons (dx_plus (dx_lift fun p => (de_var 1)) (dx_callT cd_str W.n_str (dxa_cons (dx_plus (dx_lift fun p => de_int) (dx_callT cd_int W.n_int (dxa_cons (dx_callM 0 (F__law_take W) (room.mono (by decide : 1 ≤ 1)) gd (dxa_cons (dx_lift fun p => (de_plus (DE.w (de_var 3)) (DE.w de_int))) dxa_nil) (hs := by exact ⟨rfl, rfl, trivial⟩)) dxa_nil) (hs := by exact ⟨rfl, trivial⟩))) dxa_nil) (hs := by exact ⟨rfl, trivial⟩))) dxa_nil)) (hs := by exact ⟨rfl, rfl, trivial⟩))) fun v48 => ?_
        exact db_nil (v48.2, v48.1) ⟨.inl rfl, .inl rfl, .inl rfl, .inl rfl, .inl rfl, .inl rfl, .inl rfl, .inl rfl, trivial⟩
      · refine dbx_asg (G := fun p => [.own p, .imm x_sign, .imm x_other, .imm x_many, .own l2.2, .imm p3, .imm v33.1, .any]) (t := v33.2) .imm 7 nd__law_lot (dxk_imm (dx_tup (dxa_cons (dx_lift fun p => de_str) (dxa_cons (dx_plus (dx_lift fun p => (de_var 2)) (dx_callT cd_str W.n_str (dxa_cons (dx_plus (dx_lift fun p => de_int) (dx_callT cd_int W.n_int (dxa_cons (dx_callM 0 (F__law_take W) (room.mono (by decide : 1 ≤ 1)) gd (dxa_cons (dx_lift fun p => de_int) dxa_nil) (hs := by exact ⟨rfl, rfl, trivial⟩)) dxa_nil) (hs := by exact ⟨rfl, trivial⟩))) dxa_nil) (hs := by exact ⟨rfl, trivial⟩))) dxa_nil)) (hs := by exact ⟨rfl, rfl, trivial⟩))) fun v49 => ?_
        exact db_nil (v49.2, v49.1) ⟨.inl rfl, .inl rfl, .inl rfl, .inl rfl, .inl rfl, .inl rfl, .inl rfl, .inl rfl, trivial⟩
      exact db_nil (n47.1, n47.2) ⟨.inl rfl, .inl rfl, .inl rfl, .inl rfl, .inl rfl, .inl rfl, .inl rfl, .inl rfl, trivial⟩
    refine db_if (fun n56 : List D => [.own n42.1, .imm x_sign, .imm x_other, .imm x_many, .own n56, .imm p3, .imm v33.1, .imm n42.2]) (dt_cmp (od_ne (u64 room)) (DE.w (de_var 7)) (DE.w (de_tup (da_cons de_str (da_cons (de_plus (DE.w (de_var 1)) (DE.w (de_callT cd_str W.n_str (daw_cons (DE.w (de_plus (DE.w de_int) (DE.w (de_var 5)))) daw_nil) (hs := by exact ⟨rfl, trivial⟩)))) da_nil)) (hs := by exact ⟨rfl, rfl, trivial⟩)))) ?_ ?_ fun n56 => ?_
    · refine db_append 4 rfl (de_tup (da_cons (de_plus (DE.w (de_var 1)) (DE.w (de_callT cd_str W.n_str (daw_cons (DE.w (de_plus (DE.w de_int) (DE.w (de_var 5)))) daw_nil) (hs := by exact ⟨rfl, trivial⟩)))) (da_cons (de_var 7) da_nil)) (hs := by exact ⟨rfl, rfl, trivial⟩)) fun v57 => ?_
      exact db_nil v57 ⟨.inl rfl, .inl rfl, .inl rfl, .inl rfl, .inl rfl, .inl rfl, .inl rfl, .inl rfl, trivial⟩
    · refine db_if (fun n60 : List D => [.own n42.1, .imm x_sign, .imm x_other, .imm x_many, .own n60, .imm p3, .imm v33.1, .imm n42.2]) (dt_cmp (od_eq (u64 room)) (DE.w (de_var 5)) (DE.w de_int)) ?_ ?_ fun n60 => ?_
      · refine db_append 4 rfl (de_tup (da_cons (de_plus (DE.w (de_var 1)) (DE.w de_str)) (da_cons (de_tup (da_cons de_str (da_cons de_int da_nil)) (hs := by exact ⟨rfl, rfl, trivial⟩)) da_nil)) (hs := by exact ⟨rfl, rfl, trivial⟩)) fun v61 => ?_
        exact db_nil v61 ⟨.inl rfl, .inl rfl, .inl rfl, .inl rfl, .inl rfl, .inl rfl, .inl rfl, .inl rfl, trivial⟩
      · exact db_nil l2.2 ⟨.inl rfl, .inl rfl, .inl rfl, .inl rfl, .inl rfl, .inl rfl, .inl rfl, .inl rfl, trivial⟩
      exact db_nil n60 ⟨.inl rfl, .inl rfl, .inl rfl, .inl rfl, .inl rfl, .inl rfl, .inl rfl, .inl rfl, trivial⟩
    exact db_nil (n42.1, n56) ⟨.inl rfl, .inl rfl, .inl rfl, .inl rfl, .inl rfl, .inr rfl, .inr rfl, .inr rfl, trivial⟩
  exact db_ret (de_callT cd_tuple W.n_tuple (daw_cons (dw_own 4) daw_nil) (hs := by exact ⟨rfl, trivial⟩)) (rkm rfl)
theorem F__law_lot (W : Wd K mg) : CalG P w K mg base 2 "_law_lot" (spM K g__law_lot) :=
  calM W.d__law_lot sc__law_lot (fun _ _ _ _ _ _ us hl => match us, hl with | [_, _, _, _], _ => rfl) (by decide) b__law_lot (fun qs ds o h => by unfold b__law_lot at h; split at h <;> first | rfl | cases h)
    fun f cdv A outer s H a qs ds hl room gd => match ds, hl with | [x_sign, x_other, x_many], _ => w__law_lot W room gd qs x_sign x_other x_many
abbrev nm__law_goes_on : List Str := ["lots", "name", "word", "end", "gone", "one", "goal", "more"]
theorem nd__law_goes_on : nm__law_goes_on.Nodup := by decide +kernel
theorem sc__law_goes_on : FnScope nm__law_goes_on ["lots", "name"] (defScope (top 33)) := C8.fnScope_by (by decide +kernel)
theorem w__law_goes_on (W : Wd K mg) {f : Addr} {cdv : Value} {A : Around} {outer : List Env} {s : Shared} {H : Hp} (room : Room 5 (A.deeper (envOfC "_law_goes_on" (defScope (top 33)) s.heap.objs.size f cdv))) (gd : A.guards = some []) (x_lots : D) (x_name : D) :
    DB (BX P w K mg base nm__law_goes_on "_law_goes_on" (defScope (top 33)) f cdv A outer s H) ⟨H, []⟩ (fun _ : Unit => [.any, .any, .any, .any, .any, .any, .any, .any]) GE (RKp K H) [.imm x_lots, .imm x_name, .any, .any, .any, .any, .any, .any] (defBody (top 33)) (B__law_goes_on x_lots x_name) := by
  unfold B__law_goes_on
  refine db_unp (de_call (F_lookup W) (room.mono (by decide : 5 ≤ 5)) gd (da_cons (de_ix (DE.w (de_var 0)) (DE.w de_int)) (da_cons (de_var 1) da_nil)) (hs := by exact ⟨rfl, rfl, trivial⟩)) (dg_tup3 rfl (dg_name 2 nd__law_goes_on) (fun _ => (dg_name 3 nd__law_goes_on)) fun _ _ => (dg_name 4 nd__law_goes_on)) fun v1 => ?_
  refine db_ifr (DTw.t (dw_or (dt_cmp (od_ne (u64 room)) (DE.w (de_var 2)) (DE.w de_str)) (dw_or1 (dt_cmp (od_notin (u65 room)) (DE.w (de_var 3)) (DE.w (DF.e (df_lc [("one", 5), ("goal", 6)] rfl nd__law_goes_on (DI.w (di_seq (de_ix (DE.w (de_var 0)) (DE.w de_int)))) (fun _ _ _ _ _ => (dg_tup2 rfl (dg_name 5 nd__law_goes_on) fun _ => (dg_name 6 nd__law_goes_on))) (fun _ _ _ _ _ p3 => dts_nil) (fun _ _ _ _ _ p3 => (de_var 5))))))))) ?_ ?_
  · exact db_ret (de_tup (da_cons (de_var 2) (da_cons (de_var 3) (da_cons (de_var 4) da_nil))) (hs := by exact ⟨rfl, rfl, rfl, trivial⟩)) rkp
  refine db_asg 7 nd__law_goes_on (de_call (F_lookup W) (room.mono (by decide : 5 ≤ 5)) gd (da_cons (de_ix (DE.w (de_var 0)) (DE.w de_int)) (da_cons (de_var 3) da_nil)) (hs := by exact ⟨rfl, rfl, trivial⟩)) fun v4 => ?_
  refine db_ifr (DTw.t (dw_and (dt_cmp (od_eq (u64 room)) (DE.w (de_ix (DE.w (de_var 7)) (DE.w de_int))) (DE.w de_str)) (dw_and1 (dt_cmp (od_in (u65 room)) (DE.w (de_ix (DE.w (de_var 7)) (DE.w de_int))) (DE.w (DF.e (df_lc [("one", 5), ("goal", 6)] rfl nd__law_goes_on (DI.w (di_seq (de_ix (DE.w (de_var 0)) (DE.w de_int)))) (fun _ _ _ _ _ => (dg_tup2 rfl (dg_name 5 nd__law_goes_on) fun _ => (dg_name 6 nd__law_goes_on))) (fun _ _ _ _ _ p6 => dts_nil) (fun _ _ _ _ _ p6 => (de_var 5))))))))) ?_ ?_
  · exact db_ret de_none rkp
  exact db_ret (de_tup (da_cons (de_ix (DE.w (de_var 7)) (DE.w de_int)) (da_cons (de_ix (DE.w (de_var 7)) (DE.w de_int)) (da_cons (de_plus (DE.w (de_sl (de_var 4) .no (.yes (de_un ud_neg de_int)))) (DE.w (de_ix (DE.w (de_var 7)) (DE.w de_int)))) da_nil))) (hs := by exact ⟨rfl, rfl, rfl, trivial⟩)) rkp
theorem F__law_goes_on (W : Wd K mg) : CalG P w K mg base 6 "_law_goes_on" (spP K g__law_goes_on) :=
  calP W.d__law_goes_on sc__law_goes_on (fun _ _ _ _ _ _ us hl => match us, hl with | [_, _], _ => rfl) (by decide) b__law_goes_on (fun ds o h => by unfold b__law_goes_on at h; split at h <;> first | rfl | cases h)
    fun f cdv A outer s H ds hl room gd => match ds, hl with | [x_lots, x_name], _ => w__law_goes_on W room gd x_lots x_name
abbrev nm__law_is_lot_right : List Str := ["pot", "lots", "both", "mine", "name", "goal", "bad", "lap", "due", "told"]
theorem nd__law_is_lot_right : nm__law_is_lot_right.Nodup := by decide +kernel
theorem sc__law_is_lot_right : FnScope nm__law_is_lot_right ["pot", "lots", "both"] (defScope (top 34)) := C8.fnScope_by (by decide +kernel)
theorem w__law_is_lot_right (W : Wd K mg) {f : Addr} {cdv : Value} {A : Around} {outer : List Env} {s : Shared} {H : Hp} {a : Addr} (room : Room 6 (A.deeper (envOfC "_law_is_lot_right" (defScope (top 34)) s.heap.objs.size f cdv))) (gd : A.guards = some []) (x_pot : List D) (x_lots : D) (x_both : D) :
    DB (BX P w K mg base nm__law_is_lot_right "_law_is_lot_right" (defScope (top 34)) f cdv A outer s H) ⟨H, [(0, a)]⟩ (fun qs : List D => [.own qs, .any, .any, .any, .any, .any, .any, .any, .any, .any]) GE (RKm K H a) [.own x_pot, .imm x_lots, .imm x_both, .any, .any, .any, .any, .any, .any, .any] (defBody (top 34)) (B__law_is_lot_right x_pot x_lots x_both) := by
  unfold B__law_is_lot_right
  refine db_setLc 3 [("name", 4), ("goal", 5)] rfl nd__law_is_lot_right (DI.w (di_seq (de_ix (DE.w (de_var 1)) (DE.w de_int)))) (fun _ _ _ _ _ => (dg_tup2 rfl (dg_name 4 nd__law_is_lot_right) fun _ => (dg_name 5 nd__law_is_lot_right))) (fun _ _ _ _ _ p2 => dts_nil) (fun _ _ _ _ _ p2 => (de_var 4)) fun v1 => ?_
  refine db_frz 3 ?_
  refine db_asg 6 nd__law_is_lot_right (de_call (F_bad_names W) (room.mono (by decide : 5 ≤ 6)) gd (da_cons (de_var 2) da_nil) (hs := by exact ⟨rfl, trivial⟩)) fun v3 => ?_
  refine db_for (P := D) (fun l4 : List D => [.own l4, .imm x_lots, .imm x_both, .imm ((.list v1)), .any, .any, .imm v3, .any, .any, .any]) x_pot rfl rfl (di_range1 W.n_range de_int) ⟨.inl rfl, .inl rfl, .inl rfl, .inl rfl, .inr rfl, .inr rfl, .inl rfl, .inr rfl, .inr rfl, .inr rfl, trivial⟩ (fun l4 => (dg_name 7 nd__law_is_lot_right)) (fun l4 p5 => ?_) fun l4 => ?_
  · unfold L1__law_is_lot_right
    refine dbx_asg (G := fun p => [.own p, .imm x_lots, .imm x_both, .imm ((.list v1)), .any, .any, .imm v3, .imm p5, .any, .any]) (t := l4) .imm 4 nd__law_is_lot_right (dxk_imm (dx_callM 0 (F__law_of W) (room.mono (by decide : 2 ≤ 6)) gd (dxa_cons (dx_lift fun p => (de_var 3)) dxa_nil) (hs := by exact ⟨rfl, rfl, trivial⟩))) fun v11 => ?_
    refine dbx_par (T := Unit) (G := fun _ => [.own v11.2, .imm x_lots, .imm x_both, .imm ((.list v1)), .imm v11.1, .any, .imm v3, .imm p5, .any, .any]) (t := ()) .imm .imm 8 9 rfl nd__law_is_lot_right (dxk_imm (dx_lift fun _ => (de_call (F__law_goes_on W) (room.mono (by decide : 6 ≤ 6)) gd (da_cons (de_var 1) (da_cons (de_var 4) da_nil)) (hs := by exact ⟨rfl, rfl, trivial⟩)))) (dxk_imm (dx_lift fun _ => (de_call (F_lookup W) (room.mono (by decide : 5 ≤ 6)) gd (da_cons (de_var 2) (da_cons (de_var 4) da_nil)) (hs := by exact ⟨rfl, rfl, trivial⟩)))) fun v12 => ?_
    refine db_ifr (DTw.t (dw_and (dt_cmp od_isnot (DE.w (de_var 8)) (DE.w de_none)) (dw_and1 (dt_cmp (od_ne (u64 room)) (DE.w (de_callB (cd_repr gd (u100 room)) W.n_repr (daw_cons (DE.w (de_var 9)) daw_nil) (hs := by exact ⟨rfl, trivial⟩))) (DE.w (de_callB (cd_repr gd (u100 room)) W.n_repr (daw_cons (DE.w (de_var 8)) daw_nil) (hs := by exact ⟨rfl, trivial⟩))))))) ?_ ?_
    · exact db_ret de_bool (rkm rfl)
    refine db_ifr (DTw.t (dw_or (dt_cmp (od_ne (u64 room)) (DE.w (de_cmp (od_in (u65 room)) (DE.w (de_var 4)) (DE.w (de_var 6)))) (DE.w (de_cmp (od_ne (u64 room)) (DE.w (de_ix (DE.w (de_var 9)) (DE.w de_int))) (DE.w de_str)))) (dw_or1 (dt_cmp (od_ne (u64 room)) (DE.w (de_ix (DE.w (de_ix (DE.w (de_var 9)) (DE.w de_int))) (DE.w de_int))) (DE.w (de_var 4)))))) ?_ ?_
    · exact db_ret de_bool (rkm rfl)
    refine db_ifr (DTw.t (dw_or (DTw.t (dw_and (dt_cmp (od_eq (u64 room)) (DE.w (de_ix (DE.w (de_var 9)) (DE.w de_int))) (DE.w de_str)) (dw_and1 (dt_cmp (od_notin (u65 room)) (DE.w (de_ix (DE.w (de_var 9)) (DE.w de_int))) (DE.w (de_ix (DE.w (de_var 9)) (DE.w de_int))))))) (dw_or1 (DTw.t (dw_and (dt_cmp (od_eq (u64 room)) (DE.w (de_ix (DE.w (de_var 9)) (DE.w de_int))) (DE.w de_str)) (dw_and1 (dt_cmp (od_notin (u65 room)) (DE.w (de_var 4)) (DE.w (de_call (F_names_at W) (room.mono (by decide : 5 ≤ 6)) gd (da_cons (de_var 2) (da_cons (de_ix (DE.w (de_var 9)) (DE.w de_int)) da_nil)) (hs := by exact ⟨rfl, rfl, trivial⟩)))))))))) ?_ ?_
    · exact db_ret de_bool (rkm rfl)
    exact db_nil v11.2 ⟨.inl rfl, .inl rfl, .inl rfl, .inl rfl, .inr rfl, .inr rfl, .inl rfl, .inr rfl, .inr rfl, .inr rfl, trivial⟩
  exact db_ret de_bool (rkm rfl)
theorem F__law_is_lot_right (W : Wd K mg) : CalG P w K mg base 7 "_law_is_lot_right" (spM K g__law_is_lot_right) :=
  calM W.d__law_is_lot_right sc__law_is_lot_right (fun _ _ _ _ _ _ us hl => match us, hl with | [_, _, _], _ => rfl) (by decide) b__law_is_lot_right (fun qs ds o h => by unfold b__law_is_lot_right at h; split at h <;> first | rfl | cases h)
    fun f cdv A outer s H a qs ds hl room gd => match ds, hl with | [x_lots, x_both], _ => w__law_is_lot_right W room gd qs x_lots x_both
abbrev nm__law_right : List Str := ["pot", "sizes", "is_apart", "lots", "both", "number", "good", "bad", "put", "one", "name", "goal"]
theorem nd__law_right : nm__law_right.Nodup := by decide +kernel
theorem sc__law_right : FnScope nm__law_right ["pot"] (defScope (top 35)) := C8.fnScope_by (by decide +kernel)
theorem w__law_right (W : Wd K mg) {f : Addr} {cdv : Value} {A : Around} {outer : List Env} {s : Shared} {H : Hp} {a : Addr} (room : Room 7 (A.deeper (envOfC "_law_right" (defScope (top 35)) s.heap.objs.size f cdv))) (gd : A.guards = some []) (x_pot : List D) :
    DB (BX P w K mg base nm__law_right "_law_right" (defScope (top 35)) f cdv A outer s H) ⟨H, [(0, a)]⟩ (fun qs : List D => [.own qs, .any, .any, .any, .any, .any, .any, .any, .any, .any, .any, .any]) GE (RKm K H a) [.own x_pot, .any, .any, .any, .any, .any, .any, .any, .any, .any, .any, .any] (defBody (top 35)) (B__law_right x_pot) := by
  unfold B__law_right
  refine dbx_asg (G := fun p => [.own p, .any, .any, .any, .any, .any, .any, .any, .any, .any, .any, .any]) (t := x_pot) .imm 1 nd__law_right (dxk_imm (dx_tup (dxa_cons (dx_plus (dx_lift fun p => de_int) (dx_callT cd_int W.n_int (dxa_cons (dx_callM 0 (F__law_take W) (room.mono (by decide : 1 ≤ 7)) gd (dxa_cons (dx_lift fun p => de_int) dxa_nil) (hs := by exact ⟨rfl, rfl, trivial⟩)) dxa_nil) (hs := by exact ⟨rfl, trivial⟩))) (dxa_cons (dx_plus (dx_lift fun p => de_int) (dx_callT cd_int W.n_int (dxa_cons (dx_callM 0 (F__law_take W) (room.mono (by decide : 1 ≤ 7)) gd (dxa_cons (dx_lift fun p => de_int) dxa_nil) (hs := by exact ⟨rfl, rfl, trivial⟩)) dxa_nil) (hs := by exact ⟨rfl, trivial⟩))) dxa_nil)) (hs := by exact ⟨rfl, rfl, trivial⟩))) fun v1 => ?_
  refine dbx_asg (G := fun p => [.own p, .imm v1.1, .any, .any, .any, .any, .any, .any, .any, .any, .any, .any]) (t := v1.2) .imm 2 nd__law_right (dxk_imm (dx_cmp (od_eq (u64 room)) (dx_callM 0 (F__law_take W) (room.mono (by decide : 1 ≤ 7)) gd (dxa_cons (dx_lift fun p => de_int) dxa_nil) (hs := by exact ⟨rfl, rfl, trivial⟩)) (dx_lift fun p => de_int))) fun v2 => ?_
  refine dbx_asg (G := fun p => [.own p, .imm v1.1, .imm v2.1, .any, .any, .any, .any, .any, .any, .any, .any, .any]) (t := v2.2) .imm 3 nd__law_right (dxk_imm (dx_tup (dxa_cons (dx_callM 0 (F__law_lot W) (room.mono (by decide : 2 ≤ 7)) gd (dxa_cons (dx_lift fun p => de_str) (dxa_cons (dx_lift fun p => (de_ite (dt_val (de_var 2)) de_str de_str)) (dxa_cons (dx_lift fun p => (de_ix (DE.w (de_var 1)) (DE.w de_int))) dxa_nil))) (hs := by exact ⟨rfl, rfl, rfl, rfl, trivial⟩)) (dxa_cons (dx_callM 0 (F__law_lot W) (room.mono (by decide : 2 ≤ 7)) gd (dxa_cons (dx_lift fun p => de_str) (dxa_cons (dx_lift fun p => (de_ite (dt_val (de_var 2)) de_str de_str)) (dxa_cons (dx_lift fun p => (de_ix (DE.w (de_var 1)) (DE.w de_int))) dxa_nil))) (hs := by exact ⟨rfl, rfl, rfl, rfl, trivial⟩)) dxa_nil)) (hs := by exact ⟨rfl, rfl, trivial⟩))) fun v3 => ?_
  refine db_asg 4 nd__law_right (de_plus (DE.w (de_ix (DE.w (de_var 3)) (DE.w de_int))) (DE.w (de_ix (DE.w (de_var 3)) (DE.w de_int)))) fun v4 => ?_
  refine dbx_ifr (G := fun p => [.own p, .imm v1.1, .imm v2.1, .imm v3.1, .imm v4, .any, .any, .any, .any, .any, .any, .any]) (t := v3.2) (DXTw.t (dxw_or (dxt_not (dxt_val (dx_callM 0 (F__law_is_lot_right W) (room.mono (by decide : 7 ≤ 7)) gd (dxa_cons (dx_lift fun p => (de_var 3)) (dxa_cons (dx_lift fun p => (de_var 4)) dxa_nil)) (hs := by exact ⟨rfl, rfl, rfl, trivial⟩)))) (dxw_or1 (dxt_not (dxt_val (dx_callM 0 (F__law_is_lot_right W) (room.mono (by decide : 7 ≤ 7)) gd (dxa_cons (dx_lift fun p => (de_revT (de_var 3))) (dxa_cons (dx_lift fun p => (de_var 4)) dxa_nil)) (hs := by exact ⟨rfl, rfl, rfl, trivial⟩))))))) (fun q5 => ?_) fun q5 => ?_
  · exact db_ret de_bool (rkm rfl)
  refine db_if (fun n12 : Unit => [.own q5.2, .imm v1.1, .imm v2.1, .imm v3.1, .imm v4, .any, .any, .any, .any, .any, .any, .any]) (dt_val (de_var 2)) ?_ ?_ fun n12 => ?_
  · refine db_ifr (DTw.t (dw_or (dt_cmp (od_ne (u64 room)) (DE.w (de_call (F_bad_names W) (room.mono (by decide : 5 ≤ 7)) gd (da_cons (de_var 4) da_nil) (hs := by exact ⟨rfl, trivial⟩))) (DE.w (de_plus (DE.w (de_call (F_bad_names W) (room.mono (by decide : 5 ≤ 7)) gd (da_cons (de_ix (DE.w (de_var 3)) (DE.w de_int)) da_nil) (hs := by exact ⟨rfl, trivial⟩))) (DE.w (de_call (F_bad_names W) (room.mono (by decide : 5 ≤ 7)) gd (da_cons (de_ix (DE.w (de_var 3)) (DE.w de_int)) da_nil) (hs := by exact ⟨rfl, trivial⟩)))))) (dw_or1 (dt_cmp (od_ne (u64 room)) (DE.w (de_call (F_straight W) (room.mono (by decide : 5 ≤ 7)) gd (da_cons (de_var 4) da_nil) (hs := by exact ⟨rfl, trivial⟩))) (DE.w (de_plus (DE.w (de_call (F_straight W) (room.mono (by decide : 5 ≤ 7)) gd (da_cons (de_ix (DE.w (de_var 3)) (DE.w de_int)) da_nil) (hs := by exact ⟨rfl, trivial⟩))) (DE.w (de_call (F_straight W) (room.mono (by decide : 5 ≤ 7)) gd (da_cons (de_ix (DE.w (de_var 3)) (DE.w de_int)) da_nil) (hs := by exact ⟨rfl, trivial⟩))))))))) ?_ ?_
    · exact db_ret de_bool (rkm rfl)
    refine db_for (P := D) (fun l14 : Unit => [.own q5.2, .imm v1.1, .imm v2.1, .imm v3.1, .imm v4, .any, .any, .any, .any, .any, .any, .any]) () rfl rfl (di_range1 W.n_range de_int) ⟨.inl rfl, .inl rfl, .inl rfl, .inl rfl, .inl rfl, .inr rfl, .inr rfl, .inr rfl, .inr rfl, .inr rfl, .inr rfl, .inr rfl, trivial⟩ (fun l14 => (dg_name 5 nd__law_right)) (fun l14 p15 => ?_) fun l14 => ?_
    · unfold L1__law_right
      refine db_ifr (dt_cmp (od_ne (u64 room)) (DE.w (de_call (F_names_at W) (room.mono (by decide : 5 ≤ 7)) gd (da_cons (de_var 4) (da_cons (de_var 5) da_nil)) (hs := by exact ⟨rfl, rfl, trivial⟩))) (DE.w (de_plus (DE.w (de_call (F_names_at W) (room.mono (by decide : 5 ≤ 7)) gd (da_cons (de_ix (DE.w (de_var 3)) (DE.w de_int)) (da_cons (de_var 5) da_nil)) (hs := by exact ⟨rfl, rfl, trivial⟩))) (DE.w (de_call (F_names_at W) (room.mono (by decide : 5 ≤ 7)) gd (da_cons (de_ix (DE.w (de_var 3)) (DE.w de_int)) (da_cons (de_var 5) da_nil)) (hs := by exact ⟨rfl, rfl, trivial⟩)))))) ?_ ?_
      · exact db_ret de_bool (rkm rfl)
      exact db_nil () ⟨.inl rfl, .inl rfl, .inl rfl, .inl rfl, .inl rfl, .inr rfl, .inr rfl, .inr rfl, .inr rfl, .inr rfl, .inr rfl, .inr rfl, trivial⟩
    exact db_nil () ⟨.inl rfl, .inl rfl, .inl rfl, .inl rfl, .inl rfl, .inr rfl, .inr rfl, .inr rfl, .inr rfl, .inr rfl, .inr rfl, .inr rfl, trivial⟩
  · exact db_nil () ⟨.inl rfl, .inl rfl, .inl rfl, .inl rfl, .inl rfl, .inr rfl, .inr rfl, .inr rfl, .inr rfl, .inr rfl, .inr rfl, .inr rfl, trivial⟩
  refine db_unp (de_tup (da_cons (de_call (F_straight W) (room.mono (by decide : 5 ≤ 7)) gd (da_cons (de_var 4) da_nil) (hs := by exact ⟨rfl, trivial⟩)) (da_cons (de_call (F_bad_names W) (room.mono (by decide : 5 ≤ 7)) gd (da_cons (de_var 4) da_nil) (hs := by exact ⟨rfl, trivial⟩)) da_nil)) (hs := by exact ⟨rfl, rfl, trivial⟩)) (dg_tup2 rfl (dg_name 6 nd__law_right) fun _ => (dg_name 7 nd__law_right)) fun v18 => ?_
  refine db_asg 8 nd__law_right (de_callT cd_tuple W.n_tuple (daw_cons (DE.w (DF.e (df_callB (cf_sorted (u100 room)) W.n_sorted (daw_cons (DE.w (de_plus (DE.w (de_var 6)) (DE.w (de_callT cd_tuple W.n_tuple (daw_cons (DE.w (DF.e (df_lc [("one", 9)] rfl nd__law_right (DI.w (di_seq (de_var 4))) (fun _ _ _ _ _ => (dg_name 9 nd__law_right)) (fun _ _ _ _ _ p20 => dts_one (dt_cmp (od_in (u65 room)) (DE.w (de_ix (DE.w (de_var 9)) (DE.w de_int))) (DE.w (de_var 7)))) (fun _ _ _ _ _ p20 => (de_var 9))))) daw_nil) (hs := by exact ⟨rfl, trivial⟩))))) daw_nil) (hs := by exact ⟨rfl, trivial⟩)))) daw_nil) (hs := by exact ⟨rfl, trivial⟩)) fun v19 => ?_
  refine db_ifr (DTw.t (dw_or (dt_cmp (od_ne (u64 room)) (DE.w (DF.e (df_lc [("name", 10), ("goal", 11)] rfl nd__law_right (DI.w (di_seq (de_var 8))) (fun _ _ _ _ _ => (dg_tup2 rfl (dg_name 10 nd__law_right) fun _ => (dg_name 11 nd__law_right))) (fun _ _ _ _ _ p22 => dts_nil) (fun _ _ _ _ _ p22 => (de_var 10))))) (DE.w (DF.e (df_lc [("name", 10), ("goal", 11)] rfl nd__law_right (DI.w (di_seq (de_var 4))) (fun _ _ _ _ _ => (dg_tup2 rfl (dg_name 10 nd__law_right) fun _ => (dg_name 11 nd__law_right))) (fun _ _ _ _ _ p23 => dts_nil) (fun _ _ _ _ _ p23 => (de_var 10)))))) (dw_or1 (dt_cmp (od_ne (u64 room)) (DE.w (de_call (F_straight W) (room.mono (by decide : 5 ≤ 7)) gd (da_cons (de_var 8) da_nil) (hs := by exact ⟨rfl, trivial⟩))) (DE.w (de_var 6)))))) ?_ ?_
  · exact db_ret de_bool (rkm rfl)
  refine db_ifr (dt_cmp (od_ne (u64 room)) (DE.w (de_call (F_bad_names W) (room.mono (by decide : 5 ≤ 7)) gd (da_cons (de_var 8) da_nil) (hs := by exact ⟨rfl, trivial⟩))) (DE.w (de_var 7))) ?_ ?_
  · exact db_ret de_bool (rkm rfl)
  refine db_for (P := (D × D)) (fun l25 : Unit => [.own q5.2, .imm v1.1, .imm v2.1, .imm v3.1, .imm v4, .any, .imm v18.1, .imm v18.2, .imm v19, .any, .any, .any]) () rfl rfl (di_seq (de_var 6)) ⟨.inl rfl, .inl rfl, .inl rfl, .inl rfl, .inl rfl, .inr rfl, .inl rfl, .inl rfl, .inl rfl, .inr rfl, .inr rfl, .inr rfl, trivial⟩ (fun l25 => (dg_tup2 rfl (dg_name 10 nd__law_right) fun _ => (dg_name 11 nd__law_right))) (fun l25 p26 => ?_) fun l25 => ?_
  · unfold L2__law_right
    refine db_ifr (DTw.t (dw_or (dt_cmp (od_ne (u64 room)) (DE.w (de_ix (DE.w (de_var 11)) (DE.w de_int))) (DE.w de_str)) (dw_or1 (dt_cmp (od_ne (u64 room)) (DE.w (de_callB (cd_repr gd (u100 room)) W.n_repr (daw_cons (DE.w (de_call (F_lookup W) (room.mono (by decide : 5 ≤ 7)) gd (da_cons (de_var 8) (da_cons (de_var 10) da_nil)) (hs := by exact ⟨rfl, rfl, trivial⟩))) daw_nil) (hs := by exact ⟨rfl, trivial⟩))) (DE.w (de_callB (cd_repr gd (u100 room)) W.n_repr (daw_cons (DE.w (de_tup (da_cons de_str (da_cons (de_ix (DE.w (de_var 11)) (DE.w de_int)) (da_cons (de_tup (da_cons (de_var 10) da_nil) (hs := by exact ⟨rfl, trivial⟩)) da_nil))) (hs := by exact ⟨rfl, rfl, rfl, trivial⟩))) daw_nil) (hs := by exact ⟨rfl, trivial⟩))))))) ?_ ?_
    · exact db_ret de_bool (rkm rfl)
    refine db_ifr (dt_cmp (od_ne (u64 room)) (DE.w (de_sl (de_call (F_lookup W) (room.mono (by decide : 5 ≤ 7)) gd (da_cons (de_var 4) (da_cons (de_var 10) da_nil)) (hs := by exact ⟨rfl, rfl, trivial⟩)) .no (.yes de_int))) (DE.w (de_tup (da_cons de_str (da_cons (de_ix (DE.w (de_var 11)) (DE.w de_int)) da_nil)) (hs := by exact ⟨rfl, rfl, trivial⟩)))) ?_ ?_
    · exact db_ret de_bool (rkm rfl)
    exact db_nil () ⟨.inl rfl, .inl rfl, .inl rfl, .inl rfl, .inl rfl, .inr rfl, .inl rfl, .inl rfl, .inl rfl, .inr rfl, .inr rfl, .inr rfl, trivial⟩
  exact db_ret (de_cmp (od_eq (u64 room)) (DE.w (de_callB (cd_sum rfl) W.n_sum (daw_cons (DE.w (DF.e (df_lc [("number", 5)] rfl nd__law_right (DI.w (di_range1 W.n_range de_int)) (fun _ _ _ _ _ => (dg_name 5 nd__law_right)) (fun _ _ _ _ _ p31 => dts_nil) (fun _ _ _ _ _ p31 => (de_callB cd_len W.n_len (daw_cons (DE.w (de_call (F_names_at W) (room.mono (by decide : 5 ≤ 7)) gd (da_cons (de_var 4) (da_cons (de_var 5) da_nil)) (hs := by exact ⟨rfl, rfl, trivial⟩))) daw_nil) (hs := by exact ⟨rfl, trivial⟩)))))) daw_nil) (hs := by exact ⟨rfl, trivial⟩))) (DE.w (de_callB cd_len W.n_len (daw_cons (DE.w (de_var 6)) daw_nil) (hs := by exact ⟨rfl, trivial⟩)))) (rkm rfl)
theorem F__law_right (W : Wd K mg) : CalG P w K mg base 8 "_law_right" (spM K g__law_right) :=
  calM W.d__law_right sc__law_right (fun _ _ _ _ _ _ us hl => match us, hl with | [_], _ => rfl) (by decide) b__law_right (fun qs ds o h => by unfold b__law_right at h; split at h <;> first | rfl | cases h)
    fun f cdv A outer s H a qs ds hl room gd => match ds, hl with | [], _ => w__law_right W room gd qs 
abbrev nm_law : List Str := ["script", "place"]
theorem nd_law : nm_law.Nodup := by decide +kernel
theorem sc_law : FnScope nm_law ["script"] (defScope (top 36)) := C8.fnScope_by (by decide +kernel)
theorem w_law (W : Wd K mg) {f : Addr} {cdv : Value} {A : Around} {outer : List Env} {s : Shared} {H : Hp} (room : Room 8 (A.deeper (envOfC "law" (defScope (top 36)) s.heap.objs.size f cdv))) (gd : A.guards = some []) (x_script : D) :
    DB (BX P w K mg base nm_law "law" (defScope (top 36)) f cdv A outer s H) ⟨H, []⟩ (fun _ : Unit => [.any, .any]) GE (RKp K H) [.imm x_script, .any] (defBody (top 36)) (B_law x_script) := by
  unfold B_law
  exact db_ret (de_callB (cd_all rfl) W.n_all (daw_cons (DE.w (DF.e (df_lc [("place", 1)] rfl nd_law (DI.w (di_seq (DF.e (df_call (F__law_cells W) (room.mono (by decide : 1 ≤ 8)) gd (da_cons (de_var 0) (da_cons de_int da_nil)) (hs := by exact ⟨rfl, rfl, trivial⟩))))) (fun _ _ _ _ _ => (dg_name 1 nd_law)) (fun _ _ _ _ _ p1 => dts_nil) (fun _ _ _ _ _ p1 => (de_callN (F__law_right W) (room.mono (by decide : 8 ≤ 8)) gd (df_call (F__law_pot W) (room.mono (by decide : 1 ≤ 8)) gd (da_cons (de_var 0) (da_cons (de_var 1) da_nil)) (hs := by exact ⟨rfl, rfl, trivial⟩)) da_nil (hs := by exact ⟨rfl, trivial⟩)))))) daw_nil) (hs := by exact ⟨rfl, trivial⟩)) rkp
theorem F_law (W : Wd K mg) : CalG P w K mg base 9 "law" (spP K g_law) :=
  calP W.d_law sc_law (fun _ _ _ _ _ _ us hl => match us, hl with | [_], _ => rfl) (by decide) b_law (fun ds o h => by unfold b_law at h; split at h <;> first | rfl | cases h)
    fun f cdv A outer s H ds hl room gd => match ds, hl with | [x_script], _ => w_law W room gd x_script
end
end DL

set_option Elab.async false
set_option linter.all false
set_option maxRecDepth 100000
set_option maxHeartbeats 0
set_option autoImplicit false
namespace DL
open PySem PySem.Spec PyProof.Rows L2
def d_is_int : He.DefD := ⟨("is_int", none), "is_int", "is_int", defArgs (top 6), defBody (top 6), defScope (top 6), [], []⟩
def d_is_told : He.DefD := ⟨("is_told", none), "is_told", "is_told", defArgs (top 7), defBody (top 7), defScope (top 7), [], []⟩
def d_is_rising : He.DefD := ⟨("is_rising", none), "is_rising", "is_rising", defArgs (top 8), defBody (top 8), defScope (top 8), [], []⟩
def d_is_name : He.DefD := ⟨("is_name", none), "is_name", "is_name", defArgs (top 18), defBody (top 18), defScope (top 18), [], []⟩
def d_is_goal : He.DefD := ⟨("is_goal", none), "is_goal", "is_goal", defArgs (top 19), defBody (top 19), defScope (top 19), [], []⟩
def d_are_names : He.DefD := ⟨("are_names", none), "are_names", "are_names", defArgs (top 20), defBody (top 20), defScope (top 20), [], []⟩
def d_look_at_names : He.DefD := ⟨("look_at_names", none), "look_at_names", "look_at_names", defArgs (top 21), defBody (top 21), defScope (top 21), [], []⟩
def d_told_lookup : He.DefD := ⟨("told_lookup", none), "told_lookup", "told_lookup", defArgs (top 22), defBody (top 22), defScope (top 22), [], []⟩
def d_lookup : He.DefD := ⟨("lookup", none), "lookup", "lookup", defArgs (top 23), defBody (top 23), defScope (top 23), [], []⟩
def d_bad_names : He.DefD := ⟨("bad_names", none), "bad_names", "bad_names", defArgs (top 24), defBody (top 24), defScope (top 24), [], []⟩
def d_names_at : He.DefD := ⟨("names_at", none), "names_at", "names_at", defArgs (top 25), defBody (top 25), defScope (top 25), [], []⟩
def d_straight : He.DefD := ⟨("straight", none), "straight", "straight", defArgs (top 26), defBody (top 26), defScope (top 26), [], []⟩
def d__law_pot : He.DefD := ⟨("_law_pot", none), "_law_pot", "_law_pot", defArgs (top 28), defBody (top 28), defScope (top 28), [], []⟩
def d__law_take : He.DefD := ⟨("_law_take", none), "_law_take", "_law_take", defArgs (top 29), defBody (top 29), defScope (top 29), [], []⟩
def d__law_of : He.DefD := ⟨("_law_of", none), "_law_of", "_law_of", defArgs (top 30), defBody (top 30), defScope (top 30), [], []⟩
def d__law_cells : He.DefD := ⟨("_law_cells", none), "_law_cells", "_law_cells", defArgs (top 31), defBody (top 31), defScope (top 31), [], []⟩
def d__law_lot : He.DefD := ⟨("_law_lot", none), "_law_lot", "_law_lot", defArgs (top 32), defBody (top 32), defScope (top 32), [], []⟩
def d__law_goes_on : He.DefD := ⟨("_law_goes_on", none), "_law_goes_on", "_law_goes_on", defArgs (top 33), defBody (top 33), defScope (top 33), [], []⟩
def d__law_is_lot_right : He.DefD := ⟨("_law_is_lot_right", none), "_law_is_lot_right", "_law_is_lot_right", defArgs (top 34), defBody (top 34), defScope (top 34), [], []⟩
def d__law_right : He.DefD := ⟨("_law_right", none), "_law_right", "_law_right", defArgs (top 35), defBody (top 35), defScope (top 35), [], []⟩
def d_law : He.DefD := ⟨("law", none), "law", "law", defArgs (top 36), defBody (top 36), defScope (top 36), [], []⟩
def hfn : List He.DefD := [d_is_int, d_is_told, d_is_rising, d_is_name, d_is_goal, d_are_names, d_look_at_names, d_told_lookup, d_lookup, d_bad_names, d_names_at, d_straight, d__law_pot, d__law_take, d__law_of, d__law_cells, d__law_lot, d__law_goes_on, d__law_is_lot_right, d__law_right, d_law]
def hfa : List He.Fa := [.glo "is_int", .glo "is_told", .glo "is_rising", .glo "is_name", .glo "is_goal", .glo "are_names", .glo "look_at_names", .glo "told_lookup", .glo "lookup", .glo "bad_names", .glo "names_at", .glo "straight", .glo "_law_pot", .glo "_law_take", .glo "_law_of", .glo "_law_cells", .glo "_law_lot", .glo "_law_goes_on", .glo "_law_is_lot_right", .glo "_law_right", .glo "law", .free "abs", .free "all", .free "bool", .free "dict", .free "int", .free "isinstance", .free "len", .free "list", .free "max", .free "min", .free "range", .free "repr", .free "sorted", .free "str", .free "sum", .free "tuple", .free "zip", .str "ALSO" "also", .str "AT" "at", .str "LETTERS" "abcdefghijklmnopqrstuvwxyz0123456789.-", .str "LOST" "lost", .int "MOST_LONG" (30), .int "MOST_NAMES" (40), .int "MOST_TICK" (1000000), .str "ROUND" "round"]
def hloose : List PySem.Str := (["__name__", "HoleError", "BadInt", "BadName", "BadNames", "is_int", "is_told", "is_rising", "MOST_NAMES", "MOST_LONG", "MOST_TICK", "LETTERS", "AT", "ALSO", "ROUND", "LOST", "is_name", "is_goal", "are_names", "look_at_names", "told_lookup", "lookup", "bad_names", "names_at", "straight", "_law_pot", "_law_take", "_law_of", "_law_cells", "_law_lot"] : List PySem.Str) ++ (["_law_goes_on", "_law_is_lot_right", "_law_right"] : List PySem.Str)
abbrev hR : PySem.W.OpenRow := PySem.W.OpenLaw.row PySem.Challenge.rw_holesheldopen_k66_whole_names_of_two_lot
abbrev hHk : PySem.W.Hook := He.hookD 4 hfa hfn
def hob (s : PySem.W.SharedT) : He.AlD := He.obsDG 4 hfa hfn (HandSHeadRun.getT s)
theorem hob_eq (s : PySem.W.SharedT) : hob s = hHk.obs s.abs := He.obsDG_eq (HandSHeadRun.getT_eq s)
theorem hrun (w : World) : HandSHeadRun.RunEq hR (PySem.W.view hR.prog [36]) hHk hob 2000 hloose w := by
  intro os
  kernel_rfl
theorem wd_of {K : PySem.W.Frag} {h : Heap} {mg : Str → Option Value} (X : K.In h) (G : h.Ns mainGlobals mg) (c : He.SaysD hfa hfn K) : Wd K mg := by
  constructor
  · obtain ⟨fd, F⟩ := c.def_ 0 (d := d_is_int) rfl
    exact ⟨_, fd, F, He.glo_ok X G (c.fact 0 (f := .glo "is_int") rfl)⟩
  · obtain ⟨fd, F⟩ := c.def_ 1 (d := d_is_told) rfl
    exact ⟨_, fd, F, He.glo_ok X G (c.fact 1 (f := .glo "is_told") rfl)⟩
  · obtain ⟨fd, F⟩ := c.def_ 2 (d := d_is_rising) rfl
    exact ⟨_, fd, F, He.glo_ok X G (c.fact 2 (f := .glo "is_rising") rfl)⟩
  · obtain ⟨fd, F⟩ := c.def_ 3 (d := d_is_name) rfl
    exact ⟨_, fd, F, He.glo_ok X G (c.fact 3 (f := .glo "is_name") rfl)⟩
  · obtain ⟨fd, F⟩ := c.def_ 4 (d := d_is_goal) rfl
    exact ⟨_, fd, F, He.glo_ok X G (c.fact 4 (f := .glo "is_goal") rfl)⟩
  · obtain ⟨fd, F⟩ := c.def_ 5 (d := d_are_names) rfl
    exact ⟨_, fd, F, He.glo_ok X G (c.fact 5 (f := .glo "are_names") rfl)⟩
  · obtain ⟨fd, F⟩ := c.def_ 6 (d := d_look_at_names) rfl
    exact ⟨_, fd, F, He.glo_ok X G (c.fact 6 (f := .glo "look_at_names") rfl)⟩
  · obtain ⟨fd, F⟩ := c.def_ 7 (d := d_told_lookup) rfl
    exact ⟨_, fd, F, He.glo_ok X G (c.fact 7 (f := .glo "told_lookup") rfl)⟩
  · obtain ⟨fd, F⟩ := c.def_ 8 (d := d_lookup) rfl
    exact ⟨_, fd, F, He.glo_ok X G (c.fact 8 (f := .glo "lookup") rfl)⟩
  · obtain ⟨fd, F⟩ := c.def_ 9 (d := d_bad_names) rfl
    exact ⟨_, fd, F, He.glo_ok X G (c.fact 9 (f := .glo "bad_names") rfl)⟩
  · obtain ⟨fd, F⟩ := c.def_ 10 (d := d_names_at) rfl
    exact ⟨_, fd, F, He.glo_ok X G (c.fact 10 (f := .glo "names_at") rfl)⟩
  · obtain ⟨fd, F⟩ := c.def_ 11 (d := d_straight) rfl
    exact ⟨_, fd, F, He.glo_ok X G (c.fact 11 (f := .glo "straight") rfl)⟩
  · obtain ⟨fd, F⟩ := c.def_ 12 (d := d__law_pot) rfl
    exact ⟨_, fd, F, He.glo_ok X G (c.fact 12 (f := .glo "_law_pot") rfl)⟩
  · obtain ⟨fd, F⟩ := c.def_ 13 (d := d__law_take) rfl
    exact ⟨_, fd, F, He.glo_ok X G (c.fact 13 (f := .glo "_law_take") rfl)⟩
  · obtain ⟨fd, F⟩ := c.def_ 14 (d := d__law_of) rfl
    exact ⟨_, fd, F, He.glo_ok X G (c.fact 14 (f := .glo "_law_of") rfl)⟩
  · obtain ⟨fd, F⟩ := c.def_ 15 (d := d__law_cells) rfl
    exact ⟨_, fd, F, He.glo_ok X G (c.fact 15 (f := .glo "_law_cells") rfl)⟩
  · obtain ⟨fd, F⟩ := c.def_ 16 (d := d__law_lot) rfl
    exact ⟨_, fd, F, He.glo_ok X G (c.fact 16 (f := .glo "_law_lot") rfl)⟩
  · obtain ⟨fd, F⟩ := c.def_ 17 (d := d__law_goes_on) rfl
    exact ⟨_, fd, F, He.glo_ok X G (c.fact 17 (f := .glo "_law_goes_on") rfl)⟩
  · obtain ⟨fd, F⟩ := c.def_ 18 (d := d__law_is_lot_right) rfl
    exact ⟨_, fd, F, He.glo_ok X G (c.fact 18 (f := .glo "_law_is_lot_right") rfl)⟩
  · obtain ⟨fd, F⟩ := c.def_ 19 (d := d__law_right) rfl
    exact ⟨_, fd, F, He.glo_ok X G (c.fact 19 (f := .glo "_law_right") rfl)⟩
  · obtain ⟨fd, F⟩ := c.def_ 20 (d := d_law) rfl
    exact ⟨_, fd, F, He.glo_ok X G (c.fact 20 (f := .glo "law") rfl)⟩
  · exact He.free_ok X G (c.fact 21 (f := .free "abs") rfl)
  · exact He.free_ok X G (c.fact 22 (f := .free "all") rfl)
  · exact He.free_ok X G (c.fact 23 (f := .free "bool") rfl)
  · exact He.free_ok X G (c.fact 24 (f := .free "dict") rfl)
  · exact He.free_ok X G (c.fact 25 (f := .free "int") rfl)
  · exact He.free_ok X G (c.fact 26 (f := .free "isinstance") rfl)
  · exact He.free_ok X G (c.fact 27 (f := .free "len") rfl)
  · exact He.free_ok X G (c.fact 28 (f := .free "list") rfl)
  · exact He.free_ok X G (c.fact 29 (f := .free "max") rfl)
  · exact He.free_ok X G (c.fact 30 (f := .free "min") rfl)
  · exact He.free_ok X G (c.fact 31 (f := .free "range") rfl)
  · exact He.free_ok X G (c.fact 32 (f := .free "repr") rfl)
  · exact He.free_ok X G (c.fact 33 (f := .free "sorted") rfl)
  · exact He.free_ok X G (c.fact 34 (f := .free "str") rfl)
  · exact He.free_ok X G (c.fact 35 (f := .free "sum") rfl)
  · exact He.free_ok X G (c.fact 36 (f := .free "tuple") rfl)
  · exact He.free_ok X G (c.fact 37 (f := .free "zip") rfl)
  · exact He.str_ok X G (c.fact 38 (f := .str "ALSO" "also") rfl)
  · exact He.str_ok X G (c.fact 39 (f := .str "AT" "at") rfl)
  · exact He.str_ok X G (c.fact 40 (f := .str "LETTERS" "abcdefghijklmnopqrstuvwxyz0123456789.-") rfl)
  · exact He.str_ok X G (c.fact 41 (f := .str "LOST" "lost") rfl)
  · exact He.int_ok X G (c.fact 42 (f := .int "MOST_LONG" (30)) rfl)
  · exact He.int_ok X G (c.fact 43 (f := .int "MOST_NAMES" (40)) rfl)
  · exact He.int_ok X G (c.fact 44 (f := .int "MOST_TICK" (1000000)) rfl)
  · exact He.str_ok X G (c.fact 45 (f := .str "ROUND" "round") rfl)
end DL
open PySem PySem.W PySem.Calls PyProof.Rows
theorem DL.the_end (hg : ∀ ns : List Int, ns.length ≤ 63 → DL.g_law [.list (ns.map .int)] = some (.bool true)) : PySem.Challenge.rw_holesheldopen_k66_whole_names_of_two_lot.Holds := by
  w_on; o_law
  refine HandSHeadRun.head_any (r := OpenLaw.row PySem.Challenge.rw_holesheldopen_k66_whole_names_of_two_lot) (q := view (OpenLaw.row PySem.Challenge.rw_holesheldopen_k66_whole_names_of_two_lot).prog [36]) (H := DL.hHk) (ob := DL.hob) (M := 2000) (loose := DL.hloose) (d := HandSHeadRun.topDef (OpenLaw.row PySem.Challenge.rw_holesheldopen_k66_whole_names_of_two_lot).prog 36) (kwd := []) DL.hob_eq
    (by kernel_rfl) (fun s => by kernel_rfl) DL.hrun (by kernel_rfl) (by kernel_rfl) (by kernel_rfl) (by rfl) (by first | assumption | decide +kernel) (by decide +kernel) ⟨rfl, rfl, rfl, rfl, rfl, by decide +kernel⟩ ?hw ?hc
  case hw => w_witness2
  case hc =>
    refine DL.walk_end (l := PySem.Challenge.rw_holesheldopen_k66_whole_names_of_two_lot) (n := 63) (k := 9) (x := "law") (g := DL.g_law) rfl (by decide) (by kernel_rfl) ⟨rfl, by decide, by decide⟩ (by kernel_rfl) ?F hg
    intro w mg h Y G
    obtain ⟨K, KX, c⟩ := Y
    exact ⟨K, KX, fun base _ _ => DL.F_law (DL.wd_of KX G c)⟩

set_option Elab.async false
set_option linter.all false
set_option maxRecDepth 100000
set_option maxHeartbeats 2000000
set_option autoImplicit false
namespace DL
open PySem PySem.Spec PyProof.Rows L2
/-! ### what is drawn from a script's cell -/
/-- of at most p bits -/
def Bd (p : Nat) (x : Int) : Prop := x.natAbs < 2 ^ p
theorem Bd.up {p q : Nat} {x : Int} (h : Bd p x) (hp : p ≤ q) : Bd q x := Nat.lt_of_lt_of_le h (Nat.pow_le_pow_right (by decide) hp)
theorem Bd.mul {p q : Nat} {x y : Int} (h : Bd p x) (g : Bd q y) : Bd (p + q) (x * y) := by
  unfold Bd at *
  rw [Int.natAbs_mul, Nat.pow_add]
  exact Nat.mul_lt_mul'' h g
theorem Bd.add {p : Nat} {x y : Int} (h : Bd p x) (g : Bd p y) : Bd (p + 1) (x + y) := by
  unfold Bd at *
  rw [Nat.pow_succ]
  have := Int.natAbs_add_le x y
  omega
theorem Bd.fit {p : Nat} {x : Int} (h : Bd p x) (hp : p ≤ 1000) : fitsM x = true := fitsM_of (h.up hp)
theorem Bd.of {p : Nat} {x : Int} (h1 : -(2 ^ p : Nat) < x) (h2 : x < (2 ^ p : Nat)) : Bd p x := by
  unfold Bd
  omega
theorem bmul {p q : Nat} {x y : Int} (h : Bd p x) (g : Bd q y) (hp : p ≤ 1000 := by decide) (hq : q ≤ 1000 := by decide) : dMul (.int x) (.int y) = some (.int (x * y)) := dMul_ii (h.up hp) (g.up hq)
theorem bdiv {q : Nat} {x y : Int} (h : 0 < y) (g : Bd q y) (hq : q ≤ 1000 := by decide) : dFdiv (.int x) (.int y) = some (.int (x / y)) := dFdiv_ii h (g.up hq)
theorem bmod {x y : Int} (h : 0 < y) : dMod (.int x) (.int y) = some (.int (x % y)) := dMod_ii h
structure Pot (k : Nat) (ps : List D) : Prop where
  ex : ∃ a b c : Int, ps = [.int a, .int b, .int c] ∧ 0 ≤ a ∧ 0 ≤ b ∧ b < 2 ^ 62 ∧ 0 ≤ c ∧ c ≤ k
theorem Pot.up {j k : Nat} {ps : List D} (h : Pot j ps) (hk : j ≤ k) : Pot k ps := by
  obtain ⟨a, b, c, e, h1, h2, h3, h4, h5⟩ := h.ex
  exact ⟨a, b, c, e, h1, h2, h3, h4, by omega⟩
theorem five (i : Int) (h0 : 0 ≤ i) (h5 : i < 5) : ∃ p : Int, 0 < p ∧ p < 2 ^ 31 ∧ dIx (.list [.int 2147483647, .int 2147483629, .int 2147483587, .int 2147483579, .int 2147483563]) (.int i) = some (.int p) := by
  have : i = 0 ∨ i = 1 ∨ i = 2 ∨ i = 3 ∨ i = 4 := by omega
  rcases this with rfl | rfl | rfl | rfl | rfl
  · exact ⟨2147483647, by decide, by decide, rfl⟩
  · exact ⟨2147483629, by decide, by decide, rfl⟩
  · exact ⟨2147483587, by decide, by decide, rfl⟩
  · exact ⟨2147483579, by decide, by decide, rfl⟩
  · exact ⟨2147483563, by decide, by decide, rfl⟩
theorem take_ok {k : Nat} {ps : List D} {u : Int} (hp : Pot k ps) (hk : k < 2 ^ 60) (h1 : 1 ≤ u) (h2 : u < 2 ^ 60) : ∃ d ps', g__law_take ps [.int u] = some (.int d, ps') ∧ 0 ≤ d ∧ d < u ∧ Pot (k + 1) ps' := by
  obtain ⟨a, b, c, rfl, a0, b0, b1, c0, c1⟩ := hp.ex
  have hu : Bd 60 u := Bd.of (by omega) (by omega)
  have i0 : ∀ x y z : Int, dIx (.list [.int x, .int y, .int z]) (.int 0) = some (.int x) := fun _ _ _ => rfl
  have i1 : ∀ x y z : Int, dIx (.list [.int x, .int y, .int z]) (.int 1) = some (.int y) := fun _ _ _ => rfl
  have i2 : ∀ x y z : Int, dIx (.list [.int x, .int y, .int z]) (.int 2) = some (.int z) := fun _ _ _ => rfl
  have s0 : ∀ x y z w : Int, setD [.int x, .int y, .int z] (.int 0) (.int w) = some [.int w, .int y, .int z] := fun _ _ _ _ => rfl
  have s2 : ∀ x y z w : Int, setD [.int x, .int y, .int z] (.int 2) (.int w) = some [.int x, .int y, .int w] := fun _ _ _ _ => rfl
  have di : ∀ x : Int, dInt [.int x] = some (.int x) := fun _ => rfl
  by_cases ha : 0 < a
  · refine ⟨a % u, [.int (a / u), .int b, .int c], ?_, Int.emod_nonneg _ (by omega), Int.emod_lt_of_pos _ (by omega), ⟨a / u, b, c, rfl, Int.ediv_nonneg a0 (by omega), b0, b1, c0, by omega⟩⟩
    simp only [g__law_take, b__law_take, B__law_take, bin_s, i0, dGt_ii, Option.bind_some, isB_s, decide_eq_true ha, consO_s, di, bmod (show 0 < u by omega), bdiv (show 0 < u by omega) hu, s0]
    rfl
  · have hb : Bd 62 b := Bd.of (by omega) (by omega)
    have hc : Bd 61 (c + 1) := Bd.of (by omega) (by omega)
    have h95 : Bd 60 (95257 : Int) := Bd.of (by decide) (by decide)
    have m1 : Bd 121 (95257 * (c + 1)) := h95.mul hc
    have m2 : Bd 182 (95257 * (c + 1) * (c + 1)) := m1.mul hc
    have m3 : Bd 184 (b + 95257 * (c + 1) * (c + 1) + 3163) := Bd.add ((hb.up (by decide)).add m2) ((Bd.of (p := 60) (by decide) (by decide)).up (by decide))
    obtain ⟨p, p0, p1, pe⟩ := five ((c + 1) % 5) (Int.emod_nonneg _ (by decide)) (Int.emod_lt_of_pos _ (by decide))
    have pw : dPow (.int (b + 95257 * (c + 1) * (c + 1) + 3163)) (.int 3) = some (.int ((b + 95257 * (c + 1) * (c + 1) + 3163) ^ 3)) := dPow_ii (n := 3) (by decide) (m3.up (by decide))
    generalize hX : (b + 95257 * (c + 1) * (c + 1) + 3163) ^ 3 = X at pw
    have q0 : 0 ≤ X % p := Int.emod_nonneg _ (by omega)
    have q1 : X % p < p := Int.emod_lt_of_pos _ p0
    have hY : Bd 31 (X % p) := Bd.of (by omega) (by omega)
    have h41 : Bd 60 (419 : Int) := Bd.of (by decide) (by decide)
    have r1 : Bd 121 (419 * (c + 1)) := h41.mul hc
    have r0 : 0 ≤ X % p % 13441 := Int.emod_nonneg _ (by decide)
    have r2 : X % p % 13441 < 13441 := Int.emod_lt_of_pos _ (by decide)
    have r3 : Bd 122 (X % p % 13441 + 419 * (c + 1)) := Bd.add ((Bd.of (p := 60) (by omega) (by omega)).up (by decide)) r1
    refine ⟨_, [.int a, .int b, .int (c + 1)], ?_, Int.emod_nonneg (X % p * (X % p % 13441 + 419 * (c + 1)) % 2305843009213693907 / 229) (show u ≠ 0 by omega), Int.emod_lt_of_pos _ (show 0 < u by omega), ⟨a, b, c + 1, rfl, a0, b0, b1, by omega, by omega⟩⟩
    have l5 : lenOk (some [PyData.int 2147483647, .int 2147483629, .int 2147483587, .int 2147483579, .int 2147483563]) = some [.int 2147483647, .int 2147483629, .int 2147483587, .int 2147483579, .int 2147483563] := rfl
    have f229 : Bd 60 (229 : Int) := Bd.of (by decide) (by decide)
    simp only [g__law_take, b__law_take, B__law_take, bin_s, i0, i1, i2, s2, dGt_ii, Option.bind_some, isB_s, decide_eq_false ha, iteO_f, consO_s, di, dPlus_ii, bmod (show (0 : Int) < 5 by decide), l5, Option.map_some, pe, bmul h95 hc, bmul m1 hc, pw, bmod p0, bmod (show (0 : Int) < 13441 by decide), bmul h41 hc, bmul hY r3, bmod (show (0 : Int) < 2305843009213693907 by decide), bdiv (show (0 : Int) < 229 by decide) f229, bmod (show 0 < u by omega)]
    rfl
theorem of_ok {k : Nat} {ps : List D} {xs : List D} (hp : Pot k ps) (hk : k < 2 ^ 60) (h1 : 1 ≤ xs.length) (h2 : xs.length ≤ 100000) : ∃ (i : Nat) (h : i < xs.length) (ps' : List D), g__law_of ps [.tuple xs] = some (xs[i], ps') ∧ Pot (k + 1) ps' := by
  obtain ⟨d, ps', e, d0, d1, hp'⟩ := take_ok (u := (xs.length : Nat)) hp hk (by omega) (by omega)
  obtain ⟨i, rfl⟩ := Int.eq_ofNat_of_zero_le d0
  have hi : i < xs.length := by omega
  refine ⟨i, hi, ps', ?_, hp'⟩
  simp only [g__law_of, b__law_of, B__law_of, binX, liftX, consX, consO_s, Option.bind_some, Option.map_some, dLen_t, e, ix_t hi]
  rfl
theorem ofl_ok {k : Nat} {ps : List D} {xs : List D} (hp : Pot k ps) (hk : k < 2 ^ 60) (h1 : 1 ≤ xs.length) (h2 : xs.length ≤ 100000) : ∃ (i : Nat) (h : i < xs.length) (ps' : List D), g__law_of ps [.list xs] = some (xs[i], ps') ∧ Pot (k + 1) ps' := by
  obtain ⟨d, ps', e, d0, d1, hp'⟩ := take_ok (u := (xs.length : Nat)) hp hk (by omega) (by omega)
  obtain ⟨i, rfl⟩ := Int.eq_ofNat_of_zero_le d0
  have hi : i < xs.length := by omega
  refine ⟨i, hi, ps', ?_, hp'⟩
  simp only [g__law_of, b__law_of, B__law_of, binX, liftX, consX, consO_s, Option.bind_some, Option.map_some, dLen_l, e, ix_l hi]
  rfl
theorem pot_ok (ns : List Int) {p : Nat} (hp : p ≤ 10) : ∃ ps, g__law_pot [.list (ns.map .int), .int (p : Nat)] = some ps ∧ Pot 0 ps := by
  have di : ∀ x : Int, dInt [.int x] = some (.int x) := fun _ => rfl
  have hpp : Bd 60 (p : Int) := Bd.of (by omega) (by omega)
  have cell : ∃ c : Int, (iteO ((bin dLt (some (.int (p : Nat))) ((consO (some (.list (ns.map .int))) (some [])).bind dLen)).bind isB) (bin dIx (some (.list (ns.map .int))) (some (.int (p : Nat)))) (bin dPlus (bin dPlus (bin dMod ((consO ((consO (slO dSl (some (.list (ns.map .int))) (some none) ((some (.int 1)).bind fun d => (isI d).map some)) (some [])).bind dSum) (some [])).bind dInt) (some (.int 1000211))) (bin dMul (some (.int 4639)) (some (.int (p : Nat))))) (some (.int 3163)))) = some (.int c) := by
    simp only [bin_s, consO_s, Option.bind_some, dLen_l, List.length_map, dLt_ii, isB_s]
    by_cases h : p < ns.length
    · refine ⟨ns[p], ?_⟩
      rw [decide_eq_true (show (p : Int) < (ns.length : Nat) by omega), iteO_t, ix_l (by rw [List.length_map]; exact h)]
      simp
    · refine ⟨((ns.take 1).sum) % 1000211 + 4639 * p + 3163, ?_⟩
      have sl : slO dSl (some (.list (ns.map .int))) (some none) (some (some 1)) = some (.list ((ns.take 1).map .int)) := by
        have := sl_to_l (ns.map PyData.int) 1
        rw [← List.map_take] at this
        exact this
      have sm : dSum [.list ((ns.take 1).map .int)] = some (.int (ns.take 1).sum) := by
        show (intsD ((ns.take 1).map .int)).map _ = _
        rw [ints_map]
        rfl
      rw [decide_eq_false (show ¬ (p : Int) < (ns.length : Nat) by omega), iteO_f]
      simp only [isI_s, Option.map_some, sl, consO_s, Option.bind_some, sm, di, bin_s, bmod (show (0 : Int) < 1000211 by decide), bmul (Bd.of (p := 60) (show -((2 ^ 60 : Nat) : Int) < 4639 by decide) (by decide)) hpp, dPlus_ii]
  obtain ⟨c, hc⟩ := cell
  have da : dAbs [.int c] = some (.int (if c < 0 then -c else c)) := rfl
  generalize hA : (if c < 0 then -c else c) = A at da
  have p10 : Bd 4 (10 : Int) := Bd.of (by decide) (by decide)
  have t60 : dPow (.int 10) (.int 60) = some (.int (10 ^ 60)) := dPow_ii (n := 60) (by decide) (p10.up (by decide))
  have b60 : Bd 200 ((10 : Int) ^ 60) := by unfold Bd; decide
  have t300 : dPow (.int (10 ^ 60)) (.int 5) = some (.int ((10 ^ 60) ^ 5)) := dPow_ii (n := 5) (by decide) (b60.up (by decide))
  have t18 : dPow (.int 10) (.int 18) = some (.int (10 ^ 18)) := dPow_ii (n := 18) (by decide) (p10.up (by decide))
  have pos : (0 : Int) < (10 ^ 60) ^ 5 := by decide
  have b300 : Bd 999 (((10 : Int) ^ 60) ^ 5) := by unfold Bd; decide
  have a0 : 0 ≤ A % (10 ^ 60) ^ 5 := Int.emod_nonneg _ (by decide)
  have a1 : Bd 999 (A % (10 ^ 60) ^ 5) := by
    have h := Int.emod_lt_of_pos A pos
    unfold Bd at b300 ⊢
    omega
  have di2 : ∀ t : Bool, dInt [.bool t] = some (.int (if t then 1 else 0)) := fun _ => rfl
  have b1 : ∀ t : Bool, Bd 1 (if t then (1 : Int) else 0) := fun t => by cases t <;> (unfold Bd; decide)
  have s0 : 0 ≤ c % 2305843009213693951 := Int.emod_nonneg _ (by decide)
  have s1 : c % 2305843009213693951 < 2305843009213693951 := Int.emod_lt_of_pos _ (by decide)
  have sb : Bd 62 (c % 2305843009213693951) := Bd.of (by omega) (by omega)
  have c1 : Bd 60 (72161 : Int) := Bd.of (by decide) (by decide)
  have c2 : Bd 60 (10853 : Int) := Bd.of (by decide) (by decide)
  refine ⟨[.int (A % (10 ^ 60) ^ 5 * (if decide ((10 : Int) ^ 18 ≤ A) then 1 else 0)), .int ((c % 2305843009213693951 * 72161 + 10853 * p * p + 2843) % 2305843009213693921), .int 0], ?_, ⟨_, _, _, rfl, Int.mul_nonneg a0 (by split <;> decide), Int.emod_nonneg _ (by decide), Int.lt_trans (Int.emod_lt_of_pos _ (by decide)) (by decide), by decide, by decide⟩⟩
  have l3 : ∀ x y z : D, lenOk (some [x, y, z]) = some [x, y, z] := fun _ _ _ => rfl
  unfold g__law_pot
  simp only [b__law_pot]
  unfold B__law_pot
  rw [hc]
  simp only [bin_s, consO_s, Option.bind_some, da, di, di2, dGe_ii, t60, t300, t18, bmod pos, bmul a1 (b1 _), bmod (show (0 : Int) < 2305843009213693951 by decide), bmul sb c1, bmul c2 hpp, bmul (c2.mul hpp) hpp, dPlus_ii, bmod (show (0 : Int) < 2305843009213693921 by decide), l3, Option.map_some]
  rfl
theorem cells_ok (ns : List Int) : ∃ m : Nat, 1 ≤ m ∧ m ≤ 3 ∧ g__law_cells [.list (ns.map .int), .int 3] = some ((List.range m).map fun i => .int (i : Nat)) := by
  refine ⟨max 1 (min 3 ns.length), by omega, by omega, ?_⟩
  have e : max (1 : Int) (min 3 ((ns.map PyData.int).length : Nat)) = ((max 1 (min 3 ns.length) : Nat) : Int) := by
    rw [List.length_map]
    omega
  have lr : dLR1 (.int ((max 1 (min 3 ns.length) : Nat) : Int)) = some ((List.range (max 1 (min 3 ns.length))).map fun i => .int (i : Nat)) := by
    rw [← rangeL_nat]
    exact if_pos (Bool.and_eq_true_iff.mpr ⟨rOk_nat (by omega), cl_iff.mpr (by omega)⟩)
  simp only [g__law_cells, b__law_cells, B__law_cells, consO_s, Option.bind_some, dLen_l, dMin_ii, dMax_ii, e, lr]
  rfl
end DL

set_option Elab.async false
set_option linter.all false
set_option autoImplicit false
namespace K66
/-! ### where names lead: plain -/
inductive Gl (α : Type) where
  | at_ (n : Int)
  | also (z : α)
inductive Wo (α : Type) where
  | at_ (n : Int)
  | round (z : α)
  | lost (z : α)
section
variable {α : Type} [DecidableEq α]
/-- the walk from x, pre gone through ahead: how it ends, all names gone through -/
inductive Walk (f : α → Option (Gl α)) : List α → α → Wo α → List α → Prop
  | lost {pre : List α} {x : α} : f x = none → Walk f pre x (.lost x) (pre ++ [x])
  | at_ {pre : List α} {x : α} {n : Int} : f x = some (.at_ n) → Walk f pre x (.at_ n) (pre ++ [x])
  | round {pre : List α} {x z : α} : f x = some (.also z) → z ∈ pre ++ [x] → Walk f pre x (.round z) (pre ++ [x])
  | go {pre : List α} {x z : α} {w : Wo α} {g : List α} : f x = some (.also z) → z ∉ pre ++ [x] → Walk f (pre ++ [x]) z w g → Walk f pre x w g
theorem Walk.det {f : α → Option (Gl α)} {pre : List α} {x : α} {w w' : Wo α} {g g' : List α} (h : Walk f pre x w g) (h' : Walk f pre x w' g') : w = w' ∧ g = g' := by
  induction h with
  | lost e => cases h' <;> simp_all
  | at_ e => cases h' <;> simp_all
  | round e m => cases h' <;> simp_all
  | go e m _ ih =>
    cases h' with
    | lost e2 => simp_all
    | at_ e2 => simp_all
    | round e2 m2 => simp_all
    | go e2 m2 h2 =>
      rw [e] at e2
      cases e2
      exact ih h2
/-- what was gone through stands first; something more -/
theorem Walk.pre {f : α → Option (Gl α)} {pre : List α} {x : α} {w : Wo α} {g : List α} (h : Walk f pre x w g) : ∃ r, g = pre ++ x :: r := by
  induction h with
  | lost e => exact ⟨[], rfl⟩
  | at_ e => exact ⟨[], rfl⟩
  | round e m => exact ⟨[], rfl⟩
  | @go pre x z w g e m _ ih =>
    obtain ⟨r, hr⟩ := ih
    exact ⟨z :: r, by rw [hr]; simp⟩
theorem Walk.round_mem {f : α → Option (Gl α)} {pre : List α} {x : α} {w : Wo α} {g : List α} (h : Walk f pre x w g) : ∀ z, w = .round z → z ∈ g := by
  induction h with
  | lost e => intro z e; cases e
  | at_ e => intro z e; cases e
  | round e m => intro z e; cases e; exact m
  | go e m _ ih => exact ih
/-- where it is lost: there is no such name; it is the last one -/
theorem Walk.lost_at {f : α → Option (Gl α)} {pre : List α} {x : α} {w : Wo α} {g : List α} (h : Walk f pre x w g) : ∀ z, w = .lost z → f z = none ∧ ∃ r, g = r ++ [z] ∧ ∀ y ∈ r, y ∈ pre ∨ (f y).isSome := by
  induction h with
  | lost e => intro z q; cases q; exact ⟨e, _, rfl, fun y hy => .inl hy⟩
  | at_ e => intro z e; cases e
  | round e m => intro z e; cases e
  | go e m _ ih =>
    intro z q
    obtain ⟨h1, r, h2, h3⟩ := ih z q
    refine ⟨h1, r, h2, fun y hy => ?_⟩
    rcases h3 y hy with h | h
    · rcases List.mem_append.mp h with h | h
      · exact .inl h
      · rw [List.mem_singleton.mp h, e]
        exact .inr rfl
    · exact .inr h
/-- more gone through ahead, none of which is met -/
theorem Walk.ext {f : α → Option (Gl α)} {pre : List α} {x : α} {w : Wo α} {g : List α} (h : Walk f pre x w g) : ∀ (p : List α), (∀ y ∈ g, y ∉ p) → Walk f (p ++ pre) x w (p ++ g) := by
  induction h with
  | lost e => intro p hp; rw [← List.append_assoc]; exact .lost e
  | at_ e => intro p hp; rw [← List.append_assoc]; exact .at_ e
  | @round pre x z e m => intro p hp; rw [← List.append_assoc]; exact .round e (by rw [List.append_assoc]; exact List.mem_append_right _ m)
  | @go pre x z w g e m h ih =>
    intro p hp
    obtain ⟨r, hr⟩ := h.pre
    refine .go e ?_ ?_
    · rw [List.append_assoc]
      intro q
      rcases List.mem_append.mp q with q | q
      · exact hp z (by rw [hr]; simp) q
      · exact m q
    · rw [List.append_assoc]
      exact ih p hp
/-- two tables that tell the same of all that is met -/
theorem Walk.congr {f f' : α → Option (Gl α)} {pre : List α} {x : α} {w : Wo α} {g : List α} (h : Walk f pre x w g) : (∀ y ∈ g, y ∉ pre → f' y = f y) → x ∉ pre → Walk f' pre x w g := by
  induction h with
  | @lost pre x e => intro k hx; exact .lost (by rw [k x (by simp) hx]; exact e)
  | @at_ pre x n e => intro k hx; exact .at_ (by rw [k x (by simp) hx]; exact e)
  | @round pre x z e m => intro k hx; exact .round (by rw [k x (by simp) hx]; exact e) m
  | @go pre x z w g e m h ih =>
    intro k hx
    obtain ⟨r, hr⟩ := h.pre
    refine .go (by rw [k x (by rw [hr]; simp) hx]; exact e) m (ih (fun y hy hn => k y hy fun q => hn (List.mem_append_left _ q)) m)
/-- a walk ends -/
theorem Walk.ends {f : α → Option (Gl α)} {keys : List α} (hk : ∀ x, (f x).isSome → x ∈ keys) : ∀ (n : Nat) (pre : List α) (x : α), keys.length < n + pre.length → (pre ++ [x]).Nodup → (∀ y ∈ pre, y ∈ keys) → ∃ w g, Walk f pre x w g ∧ g.length ≤ keys.length + 1
  | 0, pre, x, h, nd, sub => by
    have := List.Nodup.length_le_of_subset (List.nodup_append.mp nd).1 (fun y hy => sub y hy)
    omega
  | n + 1, pre, x, h, nd, sub => by
    have hl := List.Nodup.length_le_of_subset (List.nodup_append.mp nd).1 (fun y hy => sub y hy)
    cases e : f x with
    | none => exact ⟨_, _, .lost e, by simp; omega⟩
    | some q =>
      have hx := hk x (by rw [e]; rfl)
      cases q with
      | at_ k => exact ⟨_, _, .at_ e, by simp; omega⟩
      | also z =>
        by_cases m : z ∈ pre ++ [x]
        · exact ⟨_, _, .round e m, by simp; omega⟩
        · obtain ⟨w, g, h1, h2⟩ := Walk.ends hk n (pre ++ [x]) z (by simp; omega) (by
            rw [List.nodup_append]
            refine ⟨nd, by simp, fun a ha b hb q => ?_⟩
            rw [List.mem_singleton.mp hb] at q
            exact m (q ▸ ha)) (fun y hy => by
            rcases List.mem_append.mp hy with hy | hy
            · exact sub y hy
            · rw [List.mem_singleton.mp hy]; exact hx)
          exact ⟨w, g, .go e m h1, h2⟩
/-- what is gone through: ahead, or a name, or where it is lost -/
theorem Walk.keys {f : α → Option (Gl α)} {pre : List α} {x : α} {w : Wo α} {g : List α} (h : Walk f pre x w g) : ∀ y ∈ g, y ∈ pre ∨ (f y).isSome ∨ w = .lost y := by
  induction h with
  | @lost pre x e =>
    intro y hy
    rcases List.mem_append.mp hy with h | h
    · exact .inl h
    · rw [List.mem_singleton.mp h]; exact .inr (.inr rfl)
  | @at_ pre x n e =>
    intro y hy
    rcases List.mem_append.mp hy with h | h
    · exact .inl h
    · rw [List.mem_singleton.mp h, e]; exact .inr (.inl rfl)
  | @round pre x z e m =>
    intro y hy
    rcases List.mem_append.mp hy with h | h
    · exact .inl h
    · rw [List.mem_singleton.mp h, e]; exact .inr (.inl rfl)
  | @go pre x z w g e m _ ih =>
    intro y hy
    rcases ih y hy with h | h
    · rcases List.mem_append.mp h with h | h
      · exact .inl h
      · rw [List.mem_singleton.mp h, e]; exact .inr (.inl rfl)
    · exact .inr h
/-- lost at the first one, or at one that a name stands for -/
theorem Walk.lost_goal {f : α → Option (Gl α)} {pre : List α} {x : α} {w : Wo α} {g : List α} (h : Walk f pre x w g) : ∀ z, w = .lost z → z = x ∨ ∃ y, f y = some (.also z) := by
  induction h with
  | lost e => intro z q; cases q; exact .inl rfl
  | at_ e => intro z e; cases e
  | round e m => intro z e; cases e
  | @go pre x z w g e m _ ih =>
    intro y q
    rcases ih y q with h | h
    · exact .inr ⟨x, by rw [h]; exact e⟩
    · exact .inr h
/-- on from where it is lost, in a greater table -/
theorem Walk.join {f h : α → Option (Gl α)} (hf : ∀ y, (f y).isSome → h y = f y) {pre : List α} {x : α} {w : Wo α} {g : List α} (a : Walk f pre x w g) : ∀ (z : α) (r : List α) (w' : Wo α) (g' : List α), w = .lost z → g = r ++ [z] → Walk h r z w' g' → Walk h pre x w' g' := by
  induction a with
  | lost e =>
    intro z r w' g' q1 q2 b
    cases q1
    rw [List.append_cancel_right q2]
    exact b
  | at_ e => intro z r w' g' q; cases q
  | round e m => intro z r w' g' q; cases q
  | go e m _ ih =>
    intro z r w' g' q1 q2 b
    exact .go (by rw [hf _ (by rw [e]; rfl)]; exact e) m (ih z r w' g' q1 q2 b)
/-! two tables told as one -/
def orT (f f' : α → Option (Gl α)) : α → Option (Gl α) := fun y => match f y with
  | some g => some g
  | none => f' y
theorem orT_l {f f' : α → Option (Gl α)} {y : α} (h : (f y).isSome) : orT f f' y = f y := by
  unfold orT
  cases e : f y with
  | none => rw [e] at h; cases h
  | some g => rfl
theorem orT_r {f f' : α → Option (Gl α)} {y : α} (h : f y = none) : orT f f' y = f' y := by
  unfold orT
  rw [h]
section
variable {f f' : α → Option (Gl α)} (dis : ∀ y, (f y).isSome → f' y = none)
include dis
theorem orT_r' {y : α} (h : (f' y).isSome) : orT f f' y = f' y := by
  refine orT_r ?_
  cases e : f y with
  | none => rfl
  | some g =>
    rw [dis y (by rw [e]; rfl)] at h
    cases h
/-- where it ends in its own lot, and isn't lost at a name of the other one -/
theorem both_own {x : α} {w : Wo α} {g : List α} (h : Walk f [] x w g) (hl : ∀ z, w = .lost z → f' z = none) : Walk (orT f f') [] x w g := by
  refine h.congr (fun y hy _ => ?_) (by simp)
  rcases h.keys y hy with q | q | q
  · cases q
  · exact orT_l q
  · obtain ⟨h1, _⟩ := h.lost_at y q
    rw [orT_r h1, h1, hl y q]
/-- where it goes on in the other lot -/
theorem both_on {x z : α} {w : Wo α} {r g : List α} (h : Walk f [] x (.lost z) (r ++ [z])) (h' : Walk f' [] z w g) (hl : ∀ y, w = .lost y → f y = none) : Walk (orT f f') [] x w (r ++ g) := by
  obtain ⟨hz, r', e, hr⟩ := h.lost_at z rfl
  have er := List.append_cancel_right e
  subst er
  have a : Walk (orT f f') [] z w g := by
    refine h'.congr (fun y hy _ => ?_) (by simp)
    rcases h'.keys y hy with q | q | q
    · cases q
    · exact orT_r' dis q
    · rw [orT_r (hl y q)]
  have b := a.ext r fun y hy hn => by
    rcases hr y hn with q | q
    · cases q
    · rcases h'.keys y hy with p | p | p
      · cases p
      · rw [dis y q] at p; cases p
      · rw [hl y p] at q; cases q
  rw [List.append_nil] at b
  exact h.join (fun y hy => orT_l hy) z r w (r ++ g) rfl rfl b
end
/-! where a name leads -/
inductive LeadsN (f : α → Option (Gl α)) (k : Int) : Nat → α → Prop
  | at_ {x : α} : f x = some (.at_ k) → LeadsN f k 0 x
  | also {x z : α} {n : Nat} : f x = some (.also z) → LeadsN f k n z → LeadsN f k (n + 1) x
theorem LeadsN.uniq {f : α → Option (Gl α)} {k k' : Int} {n m : Nat} {x : α} (h : LeadsN f k n x) (h' : LeadsN f k' m x) : n = m ∧ k = k' := by
  induction h generalizing m with
  | at_ e => cases h' <;> simp_all
  | also e _ ih =>
    cases h' with
    | at_ e2 => simp_all
    | also e2 h2 =>
      rw [e] at e2
      cases e2
      obtain ⟨h1, h2⟩ := ih h2
      exact ⟨by omega, h2⟩
theorem LeadsN.walk {f : α → Option (Gl α)} {k : Int} {pre : List α} {x : α} {w : Wo α} {g : List α} (h : Walk f pre x w g) : ∀ n, LeadsN f k n x → (∀ y ∈ pre, ∃ m, n < m ∧ LeadsN f k m y) → w = .at_ k := by
  induction h with
  | lost e => intro n l; cases l <;> simp_all
  | at_ e => intro n l; cases l <;> simp_all
  | @round pre x z e m =>
    intro n l hp
    cases l with
    | at_ e2 => simp_all
    | @also _ z' j e2 l2 =>
      rw [e] at e2
      cases e2
      rcases List.mem_append.mp m with q | q
      · obtain ⟨i, h1, h2⟩ := hp z q
        have := (h2.uniq l2).1
        omega
      · rw [List.mem_singleton.mp q] at l2
        have := (l2.uniq (.also e (List.mem_singleton.mp q ▸ l2 : LeadsN f k j z))).1
        omega
  | @go pre x z w g e m _ ih =>
    intro n l hp
    cases l with
    | at_ e2 => simp_all
    | @also _ z' j e2 l2 =>
      rw [e] at e2
      cases e2
      refine ih j l2 fun y hy => ?_
      rcases List.mem_append.mp hy with q | q
      · obtain ⟨i, h1, h2⟩ := hp y q
        exact ⟨i, by omega, h2⟩
      · rw [List.mem_singleton.mp q]
        exact ⟨j + 1, by omega, .also e l2⟩
theorem Walk.leads {f : α → Option (Gl α)} {pre : List α} {x : α} {w : Wo α} {g : List α} (h : Walk f pre x w g) : ∀ k, w = .at_ k → ∃ n, LeadsN f k n x := by
  induction h with
  | lost e => intro k q; cases q
  | at_ e => intro k q; cases q; exact ⟨0, .at_ e⟩
  | round e m => intro k q; cases q
  | go e m _ ih =>
    intro k q
    obtain ⟨n, h⟩ := ih k q
    exact ⟨n + 1, .also e h⟩
/-- what leads on the way leads from the beginning -/
theorem Walk.bad_all {f : α → Option (Gl α)} {pre : List α} {x : α} {w : Wo α} {g : List α} (h : Walk f pre x w g) : ∀ y ∈ g, y ∈ pre ∨ ∀ k n, LeadsN f k n y → ∃ m, LeadsN f k m x := by
  induction h with
  | @lost pre x e =>
    intro y hy
    rcases List.mem_append.mp hy with h | h
    · exact .inl h
    · rw [List.mem_singleton.mp h]; exact .inr fun k n l => ⟨n, l⟩
  | @at_ pre x n e =>
    intro y hy
    rcases List.mem_append.mp hy with h | h
    · exact .inl h
    · rw [List.mem_singleton.mp h]; exact .inr fun k n l => ⟨n, l⟩
  | @round pre x z e m =>
    intro y hy
    rcases List.mem_append.mp hy with h | h
    · exact .inl h
    · rw [List.mem_singleton.mp h]; exact .inr fun k n l => ⟨n, l⟩
  | @go pre x z w g e m _ ih =>
    intro y hy
    rcases ih y hy with h | h
    · rcases List.mem_append.mp h with h | h
      · exact .inl h
      · rw [List.mem_singleton.mp h]; exact .inr fun k n l => ⟨n, l⟩
    · refine .inr fun k n l => ?_
      obtain ⟨m, h2⟩ := h k n l
      exact ⟨m + 1, .also e h2⟩
/-- names that lead at numbers put at these at once -/
theorem put_good {f f' : α → Option (Gl α)} {x : α} {k : Int} (h : f' x = some (.at_ k)) : Walk f' [] x (.at_ k) [x] := .at_ (pre := []) h
theorem put_bad {f f' : α → Option (Gl α)} (hp : ∀ y, (∀ k n, ¬ LeadsN f k n y) → f' y = f y) {x : α} {w : Wo α} {g : List α} (h : Walk f [] x w g) (hw : ∀ k, w ≠ .at_ k) : Walk f' [] x w g := by
  refine h.congr (fun y hy _ => hp y fun k n l => ?_) (by simp)
  rcases h.bad_all y hy with q | q
  · cases q
  · obtain ⟨m, l2⟩ := q k n l
    exact hw k (LeadsN.walk h m l2 (fun y hy => nomatch hy))
end
end K66

set_option Elab.async false
set_option linter.all false
set_option maxRecDepth 100000
set_option maxHeartbeats 2000000
set_option autoImplicit false
namespace DL
open PySem PySem.Spec PyProof.Rows L2 K66
/-! ### the names that are drawn -/
def sg (c : Fin 4) : Str := match c with | 0 => "a" | 1 => "b" | 2 => "x" | 3 => "y"
def nm (c : Fin 4) (n : Nat) : Str := sg c ++ Str.ofString (toString (10 + (n : Int)))
def isT : Option D → Bool
  | some (.bool true) => true
  | _ => false
theorem isT_eq {o : Option D} (h : isT o = true) : o = some (.bool true) := by
  unfold isT at h
  split at h
  · rfl
  · cases h
theorem nm_name' : ∀ c : Fin 4, ∀ n : Fin 32, isT (g_is_name [.str (nm c n.1)]) = true := by decide +kernel
theorem nm_name (c : Fin 4) {n : Nat} (h : n < 32) : g_is_name [.str (nm c n)] = some (.bool true) := isT_eq (nm_name' c ⟨n, h⟩)
theorem nm_nice' : ∀ c : Fin 4, ∀ n : Fin 32, nice (.str (nm c n.1)) = true := by decide +kernel
theorem nm_inj' : ∀ c d : Fin 4, ∀ n m : Fin 32, nm c n.1 = nm d m.1 → c = d ∧ n = m := by decide +kernel
theorem nm_lt' : ∀ c : Fin 4, ∀ n m : Fin 32, n < m → (nm c n.1).cps.toList < (nm c m.1).cps.toList := by decide +kernel
theorem nm_ab' : ∀ n m : Fin 32, (nm 0 n.1).cps.toList < (nm 1 m.1).cps.toList := by decide +kernel
end DL

set_option Elab.async false
set_option linter.all false
set_option maxRecDepth 100000
set_option maxHeartbeats 2000000
set_option autoImplicit false
namespace DL
open PySem PySem.Spec PyProof.Rows L2 K66
/-! ### tables of names -/
abbrev Tb := List (Str × Gl Str)
def glD : Gl Str → D
  | .at_ n => .tuple [.str "at", .int n]
  | .also z => .tuple [.str "also", .str z]
def rowD (p : Str × Gl Str) : D := .tuple [.str p.1, glD p.2]
def tbD (T : Tb) : D := .tuple (T.map rowD)
def gt (T : Tb) (x : Str) : Option (Gl Str) := (T.find? fun p => decide (p.1 = x)).map (·.2)
def wdD : Wo Str → List D
  | .at_ n => [.str "at", .int n]
  | .round z => [.str "round", .str z]
  | .lost z => [.str "lost", .str z]
def strsD (g : List Str) : List D := g.map .str
def resD (w : Wo Str) (g : List Str) : D := .tuple (wdD w ++ [.tuple (strsD g)])
def isnm (x : Str) : Prop := ∃ c n, n < 32 ∧ x = nm c n
def okG : Gl Str → Prop
  | .at_ n => 0 ≤ n ∧ n < 4
  | .also z => isnm z
structure OkT (T : Tb) : Prop where
  len : T.length ≤ 40
  up : T.Pairwise fun p q => p.1.cps.toList < q.1.cps.toList
  nms : ∀ p ∈ T, isnm p.1
  gls : ∀ p ∈ T, okG p.2
theorem isnm.nice {x : Str} (h : isnm x) : nice (.str x) = true := by
  obtain ⟨c, n, hn, rfl⟩ := h
  exact nm_nice' c ⟨n, hn⟩
theorem isnm.name {x : Str} (h : isnm x) : g_is_name [.str x] = some (.bool true) := by
  obtain ⟨c, n, hn, rfl⟩ := h
  exact nm_name c hn
theorem OkT.nodup {T : Tb} (h : OkT T) : (T.map (·.1)).Nodup := by
  unfold List.Nodup
  rw [List.pairwise_map]
  exact h.up.imp fun {p q} hl e => by
    rw [e] at hl
    exact List.lt_irrefl _ hl
/-! a table as a dict -/
theorem pairs_tb : ∀ T : Tb, pairsD (T.map rowD) = some (T.map fun p => (.inr p.1, glD p.2))
  | [] => rfl
  | p :: r => by
    show (pairD (rowD p)).bind _ = _
    rw [show pairD (rowD p) = some (.inr p.1, glD p.2) from rfl, Option.bind_some, pairs_tb r]
    rfl
theorem merge_new : ∀ (es : List (Key × D)) (kvs : List (D × D)), (∀ p ∈ es, kvs.any (fun q => isK p.1 q.1) = false) → (es.map (·.1)).Nodup → mergeD kvs es = kvs ++ es.map fun p => (keyD p.1, p.2)
  | [], kvs, _, _ => by simp [mergeD]
  | p :: r, kvs, h, nd => by
    show mergeD (putD kvs p.1 p.2) r = _
    have e : putD kvs p.1 p.2 = kvs ++ [(keyD p.1, p.2)] := if_neg (by rw [h p List.mem_cons_self]; exact Bool.false_ne_true)
    rw [List.map_cons, List.nodup_cons] at nd
    rw [e, merge_new r _ (fun q hq => ?_) nd.2]
    · simp
    · rw [List.any_append, h q (List.mem_cons_of_mem _ hq)]
      simp only [List.any_cons, List.any_nil, Bool.or_false, Bool.false_or, isK_keyD]
      exact decide_eq_false fun e => nd.1 (e ▸ List.mem_map_of_mem hq)
def tbK (T : Tb) : List (D × D) := T.map fun p => (.str p.1, glD p.2)
theorem dict_tb {T : Tb} (h : (T.map (·.1)).Nodup) : dDict [tbD T] = some (tbK T) := by
  show (if plainT then (pairsD (T.map rowD)).map (mergeD []) else none) = _
  rw [if_pos (show plainT = true from rfl), pairs_tb, Option.map_some, merge_new _ _ (fun _ _ => rfl) ?_]
  · simp [tbK, keyD, Function.comp_def]
  · rw [List.map_map]
    have : ((fun x : Key × D => x.1) ∘ fun p : Str × Gl Str => ((.inr p.1 : Key), glD p.2)) = fun p => .inr p.1 := rfl
    rw [this]
    rw [show (fun p : Str × Gl Str => (.inr p.1 : Key)) = (fun x => .inr x) ∘ (fun p : Str × Gl Str => p.1) from rfl, ← List.map_map]
    unfold List.Nodup at h ⊢
    rw [List.pairwise_map]
    exact h.imp fun hne e => hne (Sum.inr.inj e)
theorem getK_tb (x : Str) : ∀ T : Tb, getK (tbK T) (.inr x) = (gt T x).map glD
  | [] => rfl
  | p :: r => by
    have ih := getK_tb x r
    unfold getK gt at ih ⊢
    unfold tbK at ih ⊢
    rw [List.map_cons, List.find?_cons, List.find?_cons]
    have e : isK (.inr x) (.str p.1) = decide (p.1 = x) := (isK_keyD (.inr x) (.inr p.1)).trans (decide_eq_decide.mpr ⟨fun h => Sum.inr.inj h, fun h => congrArg _ h⟩)
    dsimp only
    rw [e]
    cases decide (p.1 = x) with
    | true => rfl
    | false => exact ih
/-! the walk -/
theorem nice_strs {g : List Str} (h : ∀ y ∈ g, nice (.str y) = true) : nice (.list (strsD g)) = true := by
  show niceAll _ = true
  rw [niceAll_iff]
  intro d hd
  obtain ⟨y, hy, rfl⟩ := List.mem_map.mp hd
  exact h y hy
theorem depth_strs (g : List Str) : PyData.depthAll (strsD g) = 0 := by
  induction g with
  | nil => rfl
  | cons y r ih => show max (PyData.depth (.str y)) (PyData.depthAll (strsD r)) = 0; rw [ih]; rfl
theorem any_strs (z : Str) (g : List Str) : (strsD g).any (fun d => PyData.eqv d (.str z)) = decide (z ∈ g) := by
  induction g with
  | nil => simp [strsD]
  | cons y r ih =>
    show (PyData.eqv (.str y) (.str z) || (strsD r).any _) = _
    rw [ih, eqv_ss]
    by_cases h : y = z
    · simp [h]
    · have : z ≠ y := fun e => h e.symm
      simp [h, this]
theorem in_strs {z : Str} {g : List Str} (hz : nice (.str z) = true) (h : ∀ y ∈ g, nice (.str y) = true) : dIn (.str z) (.list (strsD g)) = some (.bool (decide (z ∈ g))) := by
  show (if SeqAt.shaped (.str z) && SeqAt.shaped (.list (strsD g)) then some (PyData.bool _) else none) = _
  rw [shaped_nice hz (by show 0 ≤ 64; omega), shaped_nice (nice_strs h) (by show (PyData.depthAll (strsD g)) + 1 ≤ 64; rw [depth_strs]; decide), if_pos (show (true && true) = true from rfl), any_strs]
theorem strs_snoc (pre : List Str) (x : Str) : strsD (pre ++ [x]) = strsD pre ++ [.str x] := by simp [strsD]
theorem told_turn {T : Tb} {pre : List Str} {x : Str} {w : Wo Str} {g : List Str} (h : Walk (gt T) pre x w g) : ∀ (n : Nat), g.length < n + pre.length → g.length < 90000 → (∀ y ∈ g, nice (.str y) = true) → (∀ y z, gt T y = some (.also z) → nice (.str z) = true) →
    whileF (L := List D) (R := D) (fun _ => some true) (L1_told_lookup (.dict (tbK T))) n (strsD (pre ++ [x])) = some (.rt (resD w g)) := by
  induction h with
  | @lost pre x e =>
    intro n hn hl hg hz
    obtain ⟨m, rfl⟩ : ∃ m, n = m + 1 := ⟨n - 1, by simp at hn; omega⟩
    have eg : dGet1 (.dict (tbK T)) (.str x) = some .none := by
      show some ((getK (tbK T) (.inr x)).getD .none) = _
      rw [getK_tb, e]; rfl
    simp [whileF, L1_told_lookup, strs_snoc, eg, resD, wdD]
  | @at_ pre x k e =>
    intro n hn hl hg hz
    obtain ⟨m, rfl⟩ : ∃ m, n = m + 1 := ⟨n - 1, by simp at hn; omega⟩
    have eg : dGet1 (.dict (tbK T)) (.str x) = some (.tuple [.str "at", .int k]) := by
      show some ((getK (tbK T) (.inr x)).getD .none) = _
      rw [getK_tb, e]; rfl
    simp [whileF, L1_told_lookup, strs_snoc, eg, resD, wdD]
  | @round pre x z e m =>
    intro n hn hl hg hz
    obtain ⟨m', rfl⟩ : ∃ m, n = m + 1 := ⟨n - 1, by simp at hn; omega⟩
    have eg : dGet1 (.dict (tbK T)) (.str x) = some (.tuple [.str "also", .str z]) := by
      show some ((getK (tbK T) (.inr x)).getD .none) = _
      rw [getK_tb, e]; rfl
    have ei := in_strs (hz x z e) hg
    rw [strs_snoc] at ei
    have en : decide (("also" : Str) = "at") = false := by decide
    simp [whileF, L1_told_lookup, strs_snoc, eg, resD, wdD, ei, m, en]
  | @go pre x z w g e m hw ih =>
    intro n hn hl hg hz
    obtain ⟨r, hr⟩ := hw.pre
    obtain ⟨m', rfl⟩ : ∃ m, n = m + 1 := ⟨n - 1, by rw [hr] at hn; simp at hn; omega⟩
    have eg : dGet1 (.dict (tbK T)) (.str x) = some (.tuple [.str "also", .str z]) := by
      show some ((getK (tbK T) (.inr x)).getD .none) = _
      rw [getK_tb, e]; rfl
    have hx : ∀ y ∈ pre ++ [x], nice (.str y) = true := fun y hy => hg y (by rw [hr]; exact List.mem_append_left _ hy)
    have ei := in_strs (hz x z e) hx
    rw [strs_snoc] at ei
    have en : decide (("also" : Str) = "at") = false := by decide
    have ih' := ih m' (by simp at hn ⊢; omega) hl hg hz
    have ea : appD (strsD pre ++ [.str x]) (.str z) = some (strsD (pre ++ [x] ++ [z])) := by
      rw [appD_s (by rw [hr] at hl; simp [strsD] at hl ⊢; omega)]
      simp [strsD]
    have et : L1_told_lookup (.dict (tbK T)) (strsD (pre ++ [x])) = some (.nx (strsD (pre ++ [x] ++ [z]))) := by
      simp [L1_told_lookup, strs_snoc, eg, ei, m, en] at ea ⊢
      simp [ea]
    rw [whileF, Option.bind_some, if_pos rfl, et, Option.bind_some]
    exact ih'
theorem gt_mem {T : Tb} {x : Str} {q : Gl Str} (h : gt T x = some q) : (x, q) ∈ T := by
  obtain ⟨p, h1, h2⟩ := Option.map_eq_some_iff.mp h
  have h3 := List.find?_some h1
  have h4 := List.mem_of_find?_eq_some h1
  rw [← h2, ← of_decide_eq_true h3]
  exact h4
theorem gt_key {T : Tb} {x : Str} (h : (gt T x).isSome) : x ∈ T.map (·.1) := by
  obtain ⟨q, hq⟩ := Option.isSome_iff_exists.mp h
  exact List.mem_map.mpr ⟨(x, q), gt_mem hq, rfl⟩
theorem OkT.walk {T : Tb} (o : OkT T) {x : Str} (hx : isnm x) : ∃ w g, Walk (gt T) [] x w g ∧ g.length ≤ 41 ∧ (∀ y ∈ g, isnm y) := by
  obtain ⟨w, g, h1, h2⟩ := Walk.ends (f := gt T) (keys := T.map (·.1)) (fun y hy => gt_key hy) (T.length + 1) [] x (by simp) (by simp) (by simp)
  have hl := o.len
  refine ⟨w, g, h1, by simp at h2; omega, fun y hy => ?_⟩
  have gen : ∀ {pre : List Str} {x : Str} {w : Wo Str} {g : List Str}, Walk (gt T) pre x w g → (∀ y ∈ pre, isnm y) → isnm x → ∀ y ∈ g, isnm y := fun {pre x w g} h => by
    have snoc : ∀ {pre : List Str} {x : Str}, (∀ y ∈ pre, isnm y) → isnm x → ∀ y ∈ pre ++ [x], isnm y := fun h1 h2 y hy => by
      rcases List.mem_append.mp hy with h | h
      · exact h1 y h
      · rw [List.mem_singleton.mp h]; exact h2
    induction h with
    | lost e => exact snoc
    | at_ e => exact snoc
    | round e m => exact snoc
    | go e m _ ih => exact fun h1 h2 => ih (snoc h1 h2) (o.gls _ (gt_mem e))
  exact gen h1 (fun y hy => nomatch hy) hx y hy
/-- told_lookup -/
theorem told_ok {T : Tb} (o : OkT T) {x : Str} (hx : isnm x) {w : Wo Str} {g : List Str} (h : Walk (gt T) [] x w g) : g_told_lookup [tbD T, .str x] = some (resD w g) := by
  obtain ⟨w', g', h1, h2, h3⟩ := o.walk hx
  obtain ⟨rfl, rfl⟩ := h.det h1
  have t := told_turn h 1000000 (by simp; omega) (by omega) (fun y hy => (h3 y hy).nice) (fun y z e => (o.gls _ (gt_mem e) : isnm z).nice)
  rw [List.nil_append] at t
  have t' : whileF (L := List D) (R := D) (fun l2 => isB (PyData.bool true)) (L1_told_lookup (.dict (tbK T))) 1000000 [.str x] = some (.rt (resD w g)) := t
  unfold g_told_lookup
  simp only [b_told_lookup]
  unfold B_told_lookup
  simp only [two_s, liftX_s, consO_s, Option.bind_some, dict_tb o.nodup, Option.map_some, lenOk_s (show [PyData.str x].length ≤ 100000 by simp)]
  rw [t']
  rfl
end DL

set_option Elab.async false
set_option linter.all false
set_option maxRecDepth 100000
set_option maxHeartbeats 2000000
set_option autoImplicit false
namespace DL
open PySem PySem.Spec PyProof.Rows L2 K66
theorem told2 (a : Str) (d : D) : g_is_told [.tuple [.str a, d], .tuple [.int 2]] = some (.bool true) := rfl
theorem s_is_int (v lo hi : Int) : g_is_int [.int v, .int lo, .int hi] = some (.bool (decide (lo ≤ v) && decide (v ≤ hi))) := by
  simp [g_is_int, b_is_int, B_is_int, chainO]
  by_cases h : lo ≤ v <;> simp [h]
theorem s_is_goal {q : Gl Str} (h : okG q) : g_is_goal [glD q] = some (.bool true) := by
  cases q with
  | at_ n =>
    have h' : 0 ≤ n ∧ n < 4 := h
    have e := s_is_int n 0 1000000
    rw [decide_eq_true h'.1, decide_eq_true (show n ≤ 1000000 by omega)] at e
    simp [g_is_goal, b_is_goal, B_is_goal, glD, told2, e]
  | also z =>
    have e := isnm.name h
    have en : decide (("also" : Str) = "at") = false := by decide
    simp [g_is_goal, b_is_goal, B_is_goal, glD, told2, e, en]
theorem rising_ok {ds : List D} (hl : ds.length ≤ 90000) (h : ds.Pairwise fun a b => dLt a b = some (.bool true)) : g_is_rising [.list ds] = some (.bool true) := by
  cases ds with
  | nil => rfl
  | cons x r =>
    have e := rise_lc x r h
    simp only [g_is_rising, b_is_rising, B_is_rising, Option.bind_some, isI_s, Option.map_some, slO_s, dSl_l, cut_from1, List.drop_succ_cons, List.drop_zero, consO_s, dZip2_ll]
    rw [e, lenOk_s (by simp at hl ⊢; omega)]
    simp only [Option.map_some, consO_s, Option.bind_some]
    rw [dAll_map (fun _ => true) r]
    simp
theorem row_names {T : Tb} (o : OkT T) {p : Str × Gl Str} (hp : p ∈ T) : L1_are_names () (rowD p) = some (.nx ()) := by
  have e1 := (o.nms p hp).name
  have e2 := s_is_goal (o.gls p hp)
  simp [L1_are_names, rowD, e1, e2]
theorem s_are_names {T : Tb} (o : OkT T) : g_are_names [tbD T] = some (.bool true) := by
  have hl := o.len
  have e1 : forF (L := Unit) (R := D) (fun l x => (some x).bind (L1_are_names l)) (T.map rowD) () = some (.nx ()) :=
    (forF_fold (f := fun l x => (some x).bind (L1_are_names l)) rowD (fun u : Unit => u) (fun u _ => u) (fun _ _ => True) T () 0 trivial fun i a s ha _ => ⟨row_names o (List.mem_of_getElem? ha), trivial⟩).1
  have e2 : lcF some (fun p6 : D => some true) (fun p6 : D => bin dIx (some p6) (some (.int 0))) (T.map rowD) = some (T.map fun p => .str p.1) := lcF_all rowD (fun p => .str p.1) T fun p _ => ⟨_, rfl, by simp [rowD]⟩
  have e3 := rising_ok (ds := T.map fun p => .str p.1) (by simp; omega) (by
    rw [List.pairwise_map]
    exact o.up.imp fun {p q} h => by rw [dLt_ss, decide_eq_true h])
  simp only [Option.bind_some, bin_s] at e1 e2
  simp only [g_are_names, b_are_names, B_are_names, tbD, Option.bind_some, isi_tuple_t, isB_s, Option.map_some, Bool.not_true, orT_f, consO_s, dLen_t, bin_s, dGt_ii, iterS_t]
  rw [e1, e2, lenOk_s (by simp; omega), decide_eq_false (by simp; omega)]
  simp [e3]
theorem s_look {T : Tb} (o : OkT T) : g_look_at_names [tbD T] = some .none := by
  simp [g_look_at_names, b_look_at_names, B_look_at_names, s_are_names o]
/-! ### how a name ends -/
open Classical in
@[irreducible] noncomputable def endOf (T : Tb) (x : Str) : Wo Str × List Str := if h : ∃ p : Wo Str × List Str, Walk (gt T) [] x p.1 p.2 then h.choose else (.lost x, [])
theorem endOf_walk {T : Tb} (o : OkT T) {x : Str} (hx : isnm x) : Walk (gt T) [] x (endOf T x).1 (endOf T x).2 := by
  obtain ⟨w, g, h, _⟩ := o.walk hx
  have ex : ∃ p : Wo Str × List Str, Walk (gt T) [] x p.1 p.2 := ⟨(w, g), h⟩
  unfold endOf
  rw [dif_pos ex]
  exact ex.choose_spec
theorem endOf_eq {T : Tb} {x : Str} {w : Wo Str} {g : List Str} (h : Walk (gt T) [] x w g) : endOf T x = (w, g) := by
  have ex : ∃ p : Wo Str × List Str, Walk (gt T) [] x p.1 p.2 := ⟨(w, g), h⟩
  unfold endOf
  rw [dif_pos ex]
  obtain ⟨h1, h2⟩ := ex.choose_spec.det h
  exact Prod.ext h1 h2
noncomputable abbrev endD (T : Tb) (x : Str) : D := resD (endOf T x).1 (endOf T x).2
theorem s_told {T : Tb} (o : OkT T) {x : Str} (hx : isnm x) : g_told_lookup [tbD T, .str x] = some (endD T x) := told_ok o hx (endOf_walk o hx)
theorem s_lookup {T : Tb} (o : OkT T) {x : Str} (hx : isnm x) : g_lookup [tbD T, .str x] = some (endD T x) := by
  simp [g_lookup, b_lookup, B_lookup, s_look o, hx.name, s_told o hx]
def isAt : Wo Str → Bool
  | .at_ _ => true
  | _ => false
def isAtK (k : Int) : Wo Str → Bool
  | .at_ n => decide (n = k)
  | _ => false
noncomputable def badT (T : Tb) : List Str := (T.filter fun p => !isAt (endOf T p.1).1).map (·.1)
noncomputable def atT (T : Tb) (k : Int) : List Str := (T.filter fun p => isAtK k (endOf T p.1).1).map (·.1)
noncomputable def strF (T : Tb) (p : Str × Gl Str) : Option (Str × Gl Str) := match (endOf T p.1).1 with
  | .at_ n => some (p.1, .at_ n)
  | _ => none
noncomputable def strT (T : Tb) : Tb := T.filterMap (strF T)
theorem dNe_word (w : Wo Str) (g : List Str) : bin dNe (bin dIx (some (resD w g)) (some (.int 0))) (some (.str "at")) = some (.bool (!isAt w)) := by
  cases w <;> simp [resD, wdD, isAt] <;> decide
theorem dEq_word (w : Wo Str) (g : List Str) : bin dEq (bin dIx (some (resD w g)) (some (.int 0))) (some (.str "at")) = some (.bool (isAt w)) := by
  cases w <;> simp [resD, wdD, isAt] <;> decide
theorem s_bad {T : Tb} (o : OkT T) : g_bad_names [tbD T] = some (.tuple (strsD (badT T))) := by
  have hl := o.len
  have e := lcF_map (pm := un2 some some) (mt := fun p1 : D × D => (bin dNe (bin dIx ((consO (some (tbD T)) (consO (some p1.1) (some []))).bind g_told_lookup) (some (.int 0))) (some (.str "at"))).bind isB) (me := fun p1 : D × D => some p1.1) rowD (fun p => !isAt (endOf T p.1).1) (fun p => .str p.1) T fun p hp => ⟨(.str p.1, glD p.2), rfl, by
    simp only [consO_s, Option.bind_some, s_told o (o.nms p hp), dNe_word, isB_s], fun _ => rfl⟩
  simp only [g_bad_names, b_bad_names, B_bad_names, consO_s, Option.bind_some, s_look o]
  simp only [tbD, iterS_t, Option.bind_some, consO_s, bin_s] at e ⊢
  rw [e, lenOk_s (by have := List.length_filter_le (fun p => !isAt (endOf T p.1).1) T; simp; omega)]
  simp [strsD, badT, Function.comp_def]
theorem nice2 {x y : D} (hx : nice x = true) (hy : nice y = true) : nice (.tuple [x, y]) = true := by simp [nice, niceAll, hx, hy]
theorem depth2 {x y : D} (hx : x.depth = 0) (hy : y.depth = 0) : (PyData.tuple [x, y]).depth ≤ 64 := by
  show max x.depth (max y.depth 0) + 1 ≤ 64
  rw [hx, hy]
  decide
theorem nice_at : nice (.str "at") = true := by decide +kernel
theorem nice_also : nice (.str "also") = true := by decide +kernel
theorem nice_round : nice (.str "round") = true := by decide +kernel
theorem nice_lost : nice (.str "lost") = true := by decide +kernel
theorem dEq_2 {a b : Str} {x y : D} (ha : nice (.str a) = true) (hb : nice (.str b) = true) (hx : nice x = true) (hy : nice y = true) (dx : x.depth = 0) (dy : y.depth = 0) : dEq (.tuple [.str a, x]) (.tuple [.str b, y]) = some (.bool (decide (a = b) && PyData.eqv x y)) := by
  rw [dEq_nice (nice2 ha hx) (nice2 hb hy) (depth2 rfl dx) (depth2 rfl dy)]
  by_cases h : a = b <;> simp [PyData.eqv, PyData.eqvAll, h]
theorem two_word (w : Wo Str) (g : List Str) (k : Int) (hk : k.natAbs < 10 ^ 18) (hz : ∀ z, w = .round z ∨ w = .lost z → nice (.str z) = true) (hn : ∀ n, w = .at_ n → n.natAbs < 10 ^ 18) :
    bin dEq (slO dSl (some (resD w g)) (some none) ((some (.int 2)).bind fun d => (isI d).map some)) ((lenOk (consO (some (.str "at")) (consO (some (.int k)) (some [])))).map .tuple) = some (.bool (isAtK k w)) := by
  have e1 : decide (("round" : Str) = "at") = false := by decide +kernel
  have e2 : decide (("lost" : Str) = "at") = false := by decide +kernel
  cases w with
  | at_ n => simp [resD, wdD, isAtK, dEq_2 nice_at nice_at (nice_int (hn n rfl)) (nice_int hk) rfl rfl, eqv_ii]
  | round z => simp [resD, wdD, isAtK, dEq_2 nice_round nice_at (hz z (.inl rfl)) (nice_int hk) rfl rfl, e1]
  | lost z => simp [resD, wdD, isAtK, dEq_2 nice_lost nice_at (hz z (.inr rfl)) (nice_int hk) rfl rfl, e2]
theorem OkT.in_end {T : Tb} (o : OkT T) {x : Str} (hx : isnm x) : ∀ y ∈ (endOf T x).2, isnm y := by
  obtain ⟨w, g, h1, h2, h3⟩ := o.walk hx
  rw [endOf_eq h1]
  exact h3
theorem OkT.end_len {T : Tb} (o : OkT T) {x : Str} (hx : isnm x) : (endOf T x).2.length ≤ 41 := by
  obtain ⟨w, g, h1, h2, h3⟩ := o.walk hx
  rw [endOf_eq h1]
  exact h2
theorem OkT.end_z {T : Tb} (o : OkT T) {x : Str} (hx : isnm x) : ∀ z, (endOf T x).1 = .round z ∨ (endOf T x).1 = .lost z → isnm z := fun z h => by
  have w := endOf_walk o hx
  rcases h with h | h
  · exact o.in_end hx z (w.round_mem z h)
  · obtain ⟨_, r, e, _⟩ := w.lost_at z h
    exact o.in_end hx z (by rw [e]; simp)
theorem Walk.at_in {f : Str → Option (Gl Str)} {pre : List Str} {x : Str} {w : Wo Str} {g : List Str} (h : Walk f pre x w g) : ∀ n, w = .at_ n → ∃ y, f y = some (.at_ n) := by
  induction h with
  | lost e => intro n q; cases q
  | at_ e => intro n q; cases q; exact ⟨_, e⟩
  | round e m => intro n q; cases q
  | go e m _ ih => exact ih
theorem OkT.end_n {T : Tb} (o : OkT T) {x : Str} (hx : isnm x) : ∀ n, (endOf T x).1 = .at_ n → 0 ≤ n ∧ n < 4 := fun n h => by
  obtain ⟨y, hy⟩ := Walk.at_in (endOf_walk o hx) n h
  exact o.gls _ (gt_mem hy)
theorem s_at {T : Tb} (o : OkT T) {k : Int} (h1 : 0 ≤ k) (h2 : k < 4) : g_names_at [tbD T, .int k] = some (.tuple (strsD (atT T k))) := by
  have hl := o.len
  have e := lcF_map (pm := un2 some some) (mt := fun p2 : D × D => (bin dEq (slO dSl ((consO (some (tbD T)) (consO (some p2.1) (some []))).bind g_told_lookup) (some none) ((some (.int 2)).bind fun d => (isI d).map some)) ((lenOk (consO (some (.str "at")) (consO (some (.int k)) (some [])))).map .tuple)).bind isB) (me := fun p1 : D × D => some p1.1) rowD (fun p => isAtK k (endOf T p.1).1) (fun p => .str p.1) T fun p hp => ⟨(.str p.1, glD p.2), rfl, by
    rw [consO_s, consO_s, Option.bind_some, s_told o (o.nms p hp), two_word _ _ _ (by omega) (fun z hz => (o.end_z (o.nms p hp) z hz).nice) (fun n hn => by have := o.end_n (o.nms p hp) n hn; omega)]
    rfl, fun _ => rfl⟩
  have ei := s_is_int k 0 1000000
  rw [decide_eq_true h1, decide_eq_true (show k ≤ 1000000 by omega)] at ei
  simp only [g_names_at, b_names_at, B_names_at]
  rw [consO_s, Option.bind_some, s_look o, Option.bind_some, consO_s, consO_s, consO_s, Option.bind_some, ei]
  simp only [Option.bind_some, isB_s, Option.map_some, Bool.and_self, Bool.not_true, iteO_f]
  rw [show iterS (tbD T) = some (T.map rowD) from rfl, Option.bind_some]
  simp only [Option.bind_some] at e
  rw [e, lenOk_s (by have := List.length_filter_le (fun p => isAtK k (endOf T p.1).1) T; simp; omega)]
  simp [strsD, atT, Function.comp_def]
/-! straight -/
theorem s_straight {T : Tb} (o : OkT T) : g_straight [tbD T] = some (tbD (strT T)) := by
  have hl := o.len
  have e := (forF_fold (f := fun (l : List D) x => ((un2 some some) x).bind (L1_straight (tbD T) l)) rowD (fun u : Tb => u.map rowD) (fun u p => u ++ (match (endOf T p.1).1 with | .at_ n => [(p.1, .at_ n)] | _ => [])) (fun i u => u.length ≤ i) T [] 0 (by simp) fun i a u ha hu => by
    have hm := List.mem_of_getElem? ha
    have hi : i < T.length := (List.getElem?_eq_some_iff.mp ha).1
    have et := s_told o (o.nms a hm)
    have ew := dEq_word (endOf T a.1).1 (endOf T a.1).2
    rw [bin] at ew
    refine ⟨?_, ?_⟩
    · show (some ((.str a.1 : D), glD a.2)).bind _ = _
      rw [Option.bind_some]
      simp only [L1_straight, consO_s, Option.bind_some, et]
      cases q : (endOf T a.1).1 with
      | at_ n =>
        have ea : appD (u.map rowD) (rowD (a.1, Gl.at_ n)) = some ((u ++ [(a.1, Gl.at_ n)]).map rowD) := by
          rw [appD_s (by simp; omega)]
          simp
        simp only [rowD, glD] at ea
        simp [endD, q, resD, wdD, ea]
      | round z =>
        have e1 : decide (("round" : Str) = "at") = false := by decide +kernel
        simp [endD, q, resD, wdD, e1]
      | lost z =>
        have e1 : decide (("lost" : Str) = "at") = false := by decide +kernel
        simp [endD, q, resD, wdD, e1]
    · cases (endOf T a.1).1 <;> simp <;> omega).1
  have ef : T.foldl (fun u p => u ++ (match (endOf T p.1).1 with | .at_ n => [(p.1, .at_ n)] | _ => [])) [] = strT T := by
    have gen : ∀ (S u : Tb), S.foldl (fun u p => u ++ (match (endOf T p.1).1 with | .at_ n => [(p.1, .at_ n)] | _ => [])) u = u ++ S.filterMap (strF T) := fun S => by
      induction S with
      | nil => intro u; simp
      | cons p r ih =>
        intro u
        rw [List.foldl_cons, ih]
        unfold strF
        cases q : (endOf T p.1).1 <;> simp [q]
    exact gen T []
  rw [ef] at e
  simp only [List.map_nil] at e
  simp only [g_straight, b_straight, B_straight, consO_s, Option.bind_some, s_look o, lenOk_s (show ([] : List D).length ≤ 100000 by decide)]
  rw [show iterS (tbD T) = some (T.map rowD) from rfl, Option.bind_some, e]
  simp [tbD]
end DL

set_option Elab.async false
set_option linter.all false
set_option maxRecDepth 100000
set_option maxHeartbeats 2000000
set_option autoImplicit false
namespace DL
open PySem PySem.Spec PyProof.Rows L2 K66
/-! ### two lots told as one -/
theorem gt_append (L M : Tb) (y : Str) : gt (L ++ M) y = K66.orT (gt L) (gt M) y := by
  unfold gt K66.orT
  simp only [List.find?_append]
  cases List.find? (fun p => decide (p.1 = y)) L with
  | none => simp
  | some p => simp
theorem gt_none {T : Tb} {y : Str} (h : y ∉ T.map (·.1)) : gt T y = none := by
  cases q : gt T y with
  | none => rfl
  | some g => exact absurd (gt_key (by rw [q]; rfl)) h
theorem gt_some {T : Tb} {y : Str} (h : y ∈ T.map (·.1)) : (gt T y).isSome := by
  obtain ⟨p, hp, e⟩ := List.mem_map.mp h
  unfold gt
  rw [Option.isSome_map, List.find?_isSome]
  exact ⟨p, hp, decide_eq_true e⟩
theorem gt_of {T : Tb} (nd : (T.map (·.1)).Nodup) {p : Str × Gl Str} (h : p ∈ T) : gt T p.1 = some p.2 := by
  induction T with
  | nil => cases h
  | cons q r ih =>
    rw [List.map_cons, List.nodup_cons] at nd
    unfold gt
    rw [List.find?_cons]
    by_cases e : q.1 = p.1
    · rw [decide_eq_true e]
      rcases List.mem_cons.mp h with h | h
      · rw [h]; rfl
      · exact absurd (e ▸ List.mem_map_of_mem h) nd.1
    · rw [decide_eq_false e]
      rcases List.mem_cons.mp h with h | h
      · exact absurd (by rw [h]) e
      · exact ih nd.2 h
/-- what law_goes_on tells -/
noncomputable def goD (L M : Tb) (x : Str) : D := match (endOf L x).1 with
  | .lost z => if z ∈ M.map (·.1) then (match (endOf M z).1 with
      | .lost y => if y ∈ L.map (·.1) then .none else resD (endOf M z).1 ((endOf L x).2.dropLast ++ (endOf M z).2)
      | _ => resD (endOf M z).1 ((endOf L x).2.dropLast ++ (endOf M z).2)) else endD L x
  | _ => endD L x
theorem go_both {L M B : Tb} (oL : OkT L) (oM : OkT M) (hB : ∀ y, gt B y = K66.orT (gt L) (gt M) y) (dis : ∀ y, y ∈ L.map (·.1) → y ∉ M.map (·.1)) {x : Str} (hx : isnm x) : goD L M x = .none ∨ goD L M x = endD B x := by
  have dis' : ∀ y, (gt L y).isSome → gt M y = none := fun y h => gt_none (dis y (gt_key h))
  have hB' : gt B = K66.orT (gt L) (gt M) := funext hB
  have wL := endOf_walk oL hx
  unfold goD
  have own : (∀ z, (endOf L x).1 = .lost z → gt M z = none) → endD L x = endD B x := fun hl => by
    have w := both_own dis' wL hl
    rw [← hB'] at w
    unfold endD
    rw [endOf_eq w]
  cases q : (endOf L x).1 with
  | at_ n => exact .inr (own fun z h => by rw [q] at h; cases h)
  | round n => exact .inr (own fun z h => by rw [q] at h; cases h)
  | lost z =>
    dsimp only
    by_cases hz : z ∈ M.map (·.1)
    · rw [if_pos hz]
      have hzn : isnm z := oL.end_z hx z (.inr q)
      have wM := endOf_walk oM hzn
      obtain ⟨_, r, er, _⟩ := wL.lost_at z q
      rw [q, er] at wL
      have on : (∀ y, (endOf M z).1 = .lost y → gt L y = none) → resD (endOf M z).1 ((endOf L x).2.dropLast ++ (endOf M z).2) = endD B x := fun hl => by
        have w := both_on dis' wL wM hl
        rw [← hB'] at w
        rw [er, List.dropLast_concat]
        unfold endD
        rw [endOf_eq w]
      cases p : (endOf M z).1 with
      | at_ n => dsimp only; rw [← p]; exact .inr (on fun y h => by rw [p] at h; cases h)
      | round n => dsimp only; rw [← p]; exact .inr (on fun y h => by rw [p] at h; cases h)
      | lost y =>
        dsimp only
        by_cases hy : y ∈ L.map (·.1)
        · rw [if_pos hy]; exact .inl rfl
        · rw [if_neg hy, ← p]
          exact .inr (on fun y' h => by rw [p] at h; cases h; exact gt_none hy)
    · rw [if_neg hz]
      exact .inr (own fun z' h => by rw [q] at h; cases h; exact gt_none hz)
/-- no name of the one stands for one of the other -/
theorem end_apart {L M B : Tb} (oL : OkT L) (hB : ∀ y, gt B y = K66.orT (gt L) (gt M) y) (dis : ∀ y, y ∈ L.map (·.1) → y ∉ M.map (·.1)) (ap : ∀ y z, gt L y = some (.also z) → z ∉ M.map (·.1)) {x : Str} (hx : x ∈ L.map (·.1)) (hn : isnm x) : endOf B x = endOf L x := by
  have dis' : ∀ y, (gt L y).isSome → gt M y = none := fun y h => gt_none (dis y (gt_key h))
  have wL := endOf_walk oL hn
  have w := both_own dis' wL fun z hz => by
    rcases wL.lost_goal z hz with h | ⟨y, h⟩
    · rw [h]; exact gt_none (dis x hx)
    · exact gt_none (ap y z h)
  have hB' : gt B = K66.orT (gt L) (gt M) := funext hB
  rw [← hB'] at w
  exact endOf_eq w
/-! ### straight names put in -/
noncomputable def putRow (B : Tb) (p : Str × Gl Str) : Str × Gl Str := match (endOf B p.1).1 with
  | .at_ n => (p.1, .at_ n)
  | _ => p
noncomputable def putT (B : Tb) : Tb := B.map (putRow B)
theorem putRow_1 (B : Tb) (p : Str × Gl Str) : (putRow B p).1 = p.1 := by
  unfold putRow
  cases (endOf B p.1).1 <;> rfl
theorem put_keys (B : Tb) : (putT B).map (·.1) = B.map (·.1) := by
  unfold putT
  rw [List.map_map]
  exact List.map_congr_left fun p _ => putRow_1 B p
theorem put_ok {B : Tb} (o : OkT B) : OkT (putT B) := by
  refine ⟨by unfold putT; rw [List.length_map]; exact o.len, ?_, fun p hp => ?_, fun p hp => ?_⟩
  · unfold putT
    rw [List.pairwise_map]
    exact o.up.imp fun {p q} h => by rw [putRow_1, putRow_1]; exact h
  · obtain ⟨q, hq, rfl⟩ := List.mem_map.mp hp
    rw [putRow_1]
    exact o.nms q hq
  · obtain ⟨q, hq, rfl⟩ := List.mem_map.mp hp
    unfold putRow
    cases e : (endOf B q.1).1 with
    | at_ n => exact o.end_n (o.nms q hq) n e
    | round z => exact o.gls q hq
    | lost z => exact o.gls q hq
theorem gt_put {B : Tb} (o : OkT B) (y : Str) : gt (putT B) y = match (endOf B y).1 with
    | .at_ n => if y ∈ B.map (·.1) then some (.at_ n) else none
    | _ => gt B y := by
  by_cases hy : y ∈ B.map (·.1)
  · obtain ⟨p, hp, rfl⟩ := List.mem_map.mp hy
    have e1 := gt_of (put_ok o).nodup (List.mem_map_of_mem (f := putRow B) hp)
    rw [putRow_1] at e1
    rw [e1]
    unfold putRow
    cases q : (endOf B p.1).1 with
    | at_ n => simp only [if_pos hy]
    | round z => rw [gt_of o.nodup hp]
    | lost z => rw [gt_of o.nodup hp]
  · have e1 : gt (putT B) y = none := gt_none (by rw [put_keys]; exact hy)
    rw [e1]
    cases q : (endOf B y).1 with
    | at_ n => simp only [if_neg hy]
    | round z => rw [gt_none hy]
    | lost z => rw [gt_none hy]
theorem end_put {B : Tb} (o : OkT B) {x : Str} (hx : x ∈ B.map (·.1)) (hn : isnm x) : endOf (putT B) x = match (endOf B x).1 with
    | .at_ n => (.at_ n, [x])
    | _ => endOf B x := by
  have w := endOf_walk o hn
  have g := gt_put o x
  cases q : (endOf B x).1 with
  | at_ n =>
    rw [q] at g
    simp only [if_pos hx] at g
    exact endOf_eq (.at_ (pre := []) g)
  | round z =>
    exact endOf_eq (put_bad (f := gt B) (f' := gt (putT B)) (fun y hy => by
      rw [gt_put o y]
      cases q2 : (endOf B y).1 with
      | at_ k =>
        dsimp only
        by_cases hk : y ∈ B.map (·.1)
        · exfalso
          obtain ⟨p, hp, rfl⟩ := List.mem_map.mp hk
          obtain ⟨n, hl⟩ := (endOf_walk o (o.nms p hp)).leads k q2
          exact hy k n hl
        · rw [if_neg hk, gt_none hk]
      | round z => rfl
      | lost z => rfl) w (fun k h => by rw [q] at h; cases h))
  | lost z =>
    exact endOf_eq (put_bad (f := gt B) (f' := gt (putT B)) (fun y hy => by
      rw [gt_put o y]
      cases q2 : (endOf B y).1 with
      | at_ k =>
        dsimp only
        by_cases hk : y ∈ B.map (·.1)
        · exfalso
          obtain ⟨p, hp, rfl⟩ := List.mem_map.mp hk
          obtain ⟨n, hl⟩ := (endOf_walk o (o.nms p hp)).leads k q2
          exact hy k n hl
        · rw [if_neg hk, gt_none hk]
      | round z => rfl
      | lost z => rfl) w (fun k h => by rw [q] at h; cases h))
theorem str_put {B : Tb} (o : OkT B) : strT (putT B) = strT B := by
  unfold strT putT
  rw [List.filterMap_map]
  refine fm_congr fun p hp => ?_
  unfold strF
  simp only [Function.comp_def, putRow_1]
  have e := end_put o (List.mem_map_of_mem hp) (o.nms p hp)
  unfold putT at e
  rw [e]
  cases q : (endOf B p.1).1 <;> simp [q]
theorem bad_put {B : Tb} (o : OkT B) : badT (putT B) = badT B := by
  unfold badT putT
  rw [List.filter_map, List.map_map]
  have e1 : ((fun p : Str × Gl Str => p.1) ∘ putRow B) = fun p => p.1 := funext fun p => putRow_1 B p
  rw [e1]
  congr 1
  refine List.filter_congr fun p hp => ?_
  simp only [Function.comp_def, putRow_1]
  have e := end_put o (List.mem_map_of_mem hp) (o.nms p hp)
  unfold putT at e
  rw [e]
  cases q : (endOf B p.1).1 <;> simp [q, isAt]
theorem mem_bad {B : Tb} (o : OkT B) {x : Str} (hx : x ∈ B.map (·.1)) : decide (x ∈ badT B) = !isAt (endOf B x).1 := by
  unfold badT
  by_cases h : isAt (endOf B x).1 = true
  · rw [h]
    refine decide_eq_false fun q => ?_
    obtain ⟨p, hp, e⟩ := List.mem_map.mp q
    have := (List.mem_filter.mp hp).2
    rw [e, h] at this
    cases this
  · rw [Bool.not_eq_true] at h
    rw [h]
    obtain ⟨p, hp, rfl⟩ := List.mem_map.mp hx
    exact decide_eq_true (List.mem_map_of_mem (List.mem_filter.mpr ⟨hp, by rw [h]; rfl⟩))
theorem put_perm {α : Type} {f : α → Option α} {q : α → Bool} {h : α → α} : ∀ l : List α, (∀ p ∈ l, (f p = some (h p) ∧ q p = false) ∨ (f p = none ∧ q p = true ∧ h p = p)) → (l.filterMap f ++ l.filter q).Perm (l.map h)
  | [], _ => .nil
  | p :: r, k => by
    have ih := put_perm r fun x hx => k x (List.mem_cons_of_mem _ hx)
    rcases k p List.mem_cons_self with ⟨h1, h2⟩ | ⟨h1, h2, h3⟩
    · rw [List.filterMap_cons_some h1, List.filter_cons_of_neg (by rw [h2]; exact Bool.false_ne_true), List.map_cons]
      exact ih.cons _
    · rw [List.filterMap_cons_none h1, List.filter_cons_of_pos h2, List.map_cons, h3]
      exact List.perm_middle.trans (ih.cons _)
theorem put_sorted {B : Tb} (o : OkT B) : (strT B ++ B.filter fun p => decide (p.1 ∈ badT B)).Perm (putT B) := put_perm B fun p hp => by
  have e := mem_bad o (List.mem_map_of_mem (f := fun p : Str × Gl Str => p.1) hp)
  rw [e]
  unfold putRow strF
  cases (endOf B p.1).1 with
  | at_ n => exact .inl ⟨rfl, rfl⟩
  | round n => exact .inr ⟨rfl, rfl, rfl⟩
  | lost n => exact .inr ⟨rfl, rfl, rfl⟩
theorem isAtK_a (k n : Int) : isAtK k (.at_ n) = decide (n = k) := rfl
theorem isAtK_r (k : Int) (z : Str) : isAtK k (.round z) = false := rfl
theorem isAtK_l (k : Int) (z : Str) : isAtK k (.lost z) = false := rfl
/-- names that lead at a number are those at 0, 1, 2, 3 -/
theorem at_count {B : Tb} (o : OkT B) : (atT B 0).length + (atT B 1).length + (atT B 2).length + (atT B 3).length = (strT B).length := by
  unfold atT strT
  simp only [List.length_map]
  have gen : ∀ l : Tb, (∀ p ∈ l, p ∈ B) → (l.filter fun p => isAtK 0 (endOf B p.1).1).length + (l.filter fun p => isAtK 1 (endOf B p.1).1).length + (l.filter fun p => isAtK 2 (endOf B p.1).1).length + (l.filter fun p => isAtK 3 (endOf B p.1).1).length = (l.filterMap (strF B)).length := fun l => by
    induction l with
    | nil => intro _; rfl
    | cons p r ih =>
      intro h
      have ih' := ih fun x hx => h x (List.mem_cons_of_mem _ hx)
      have hn := o.end_n (o.nms p (h p List.mem_cons_self))
      have eF : strF B p = match (endOf B p.1).1 with | .at_ n => some (p.1, Gl.at_ n) | _ => none := rfl
      simp only [List.filter_cons, List.filterMap_cons, eF]
      cases q : (endOf B p.1).1 with
      | at_ n =>
        have := hn n q
        have : n = 0 ∨ n = 1 ∨ n = 2 ∨ n = 3 := by omega
        rcases this with rfl | rfl | rfl | rfl <;> simp [isAtK_a] <;> omega
      | round z => simp [isAtK_r]; omega
      | lost z => simp [isAtK_l]; omega
  exact gen B fun p hp => hp
end DL

set_option Elab.async false
set_option linter.all false
set_option maxRecDepth 100000
set_option maxHeartbeats 2000000
set_option autoImplicit false
namespace DL
open PySem PySem.Spec PyProof.Rows L2 K66
theorem nm_size' : ∀ c : Fin 4, ∀ n : Fin 32, (nm c n.1).cps.size = 3 := by decide +kernel
theorem isnm.size {x : Str} (h : isnm x) : x.cps.size = 3 := by
  obtain ⟨c, n, hn, rfl⟩ := h
  exact nm_size' c ⟨n, hn⟩
theorem bulk_strs : ∀ g : List Str, (∀ y ∈ g, isnm y) → PyData.bulkAll (strsD g) = 4 * g.length
  | [], _ => rfl
  | y :: r, h => by
    show y.cps.size + 1 + PyData.bulkAll (strsD r) = _
    rw [bulk_strs r fun z hz => h z (List.mem_cons_of_mem _ hz), (h y List.mem_cons_self).size, List.length_cons]
    omega
/-- what a lookup tells is plain data -/
theorem nice_res {w : Wo Str} {g : List Str} (hg : ∀ y ∈ g, isnm y) (hz : ∀ z, w = .round z ∨ w = .lost z → isnm z) (hn : ∀ n, w = .at_ n → n.natAbs < 10 ^ 18) : nice (resD w g) = true := by
  have h1 : nice (.tuple (strsD g)) = true := nice_strs fun y hy => (hg y hy).nice
  unfold resD
  cases w with
  | at_ n => simp [wdD, nice, niceAll]; exact ⟨by have := nice_at; simpa [nice] using this, hn n rfl, by simpa [nice] using h1⟩
  | round z => simp [wdD, nice, niceAll]; exact ⟨by have := nice_round; simpa [nice] using this, by simpa [nice] using (hz z (.inl rfl)).nice, by simpa [nice] using h1⟩
  | lost z => simp [wdD, nice, niceAll]; exact ⟨by have := nice_lost; simpa [nice] using this, by simpa [nice] using (hz z (.inr rfl)).nice, by simpa [nice] using h1⟩
theorem bulk_res {w : Wo Str} {g : List Str} (hg : ∀ y ∈ g, isnm y) (hz : ∀ z, w = .round z ∨ w = .lost z → isnm z) : (resD w g).bulk ≤ 20 + 4 * g.length := by
  have hb := bulk_strs g hg
  unfold resD
  have h1 : ("at" : Str).cps.size = 2 := by decide +kernel
  have h2 : ("round" : Str).cps.size = 5 := by decide +kernel
  have h3 : ("lost" : Str).cps.size = 4 := by decide +kernel
  cases w with
  | at_ n => simp [wdD, PyData.bulk, PyData.bulkAll, hb, h1]; omega
  | round z => have := (hz z (.inl rfl)).size; simp [wdD, PyData.bulk, PyData.bulkAll, hb, this, h2]; omega
  | lost z => have := (hz z (.inr rfl)).size; simp [wdD, PyData.bulk, PyData.bulkAll, hb, this, h3]; omega
theorem repr_end {T : Tb} (o : OkT T) {x : Str} (hx : isnm x) : ∃ s, dRepr [endD T x] = some (.str s) := by
  refine ⟨_, repr_nice (nice_res (o.in_end hx) (o.end_z hx) fun n hn => by have := o.end_n hx n hn; omega) ?_ ?_⟩
  · unfold endD resD
    have := depth_strs (endOf T x).2
    cases (endOf T x).1 <;> simp [wdD, PyData.depth, PyData.depthAll, this]
  · have := bulk_res (o.in_end hx) (o.end_z hx)
    have := o.end_len hx
    show (resD _ _).bulk ≤ 40000
    omega
theorem keys_lc (T : Tb) : lcF (un2 some some) (fun p3 : D × D => some true) (fun p3 : D × D => some p3.1) (T.map rowD) = some (strsD (T.map (·.1))) := by
  rw [lcF_all rowD (fun p => .str p.1) T fun p _ => ⟨(.str p.1, glD p.2), rfl, rfl⟩]
  simp [strsD, Function.comp_def]
theorem s_goes {L M : Tb} (oL : OkT L) (oM : OkT M) {x : Str} (hx : isnm x) : g__law_goes_on [.tuple [tbD L, tbD M], .str x] = some (goD L M x) := by
  have lL := oL.len
  have lM := oM.len
  have hkL : ∀ y ∈ L.map (·.1), nice (.str y) = true := fun y hy => by
    obtain ⟨p, hp, rfl⟩ := List.mem_map.mp hy
    exact (oL.nms p hp).nice
  have hkM : ∀ y ∈ M.map (·.1), nice (.str y) = true := fun y hy => by
    obtain ⟨p, hp, rfl⟩ := List.mem_map.mp hy
    exact (oM.nms p hp).nice
  have kL : lenOk (some (strsD (L.map (·.1)))) = some (strsD (L.map (·.1))) := lenOk_s (by simp [strsD]; omega)
  have kM : lenOk (some (strsD (M.map (·.1)))) = some (strsD (M.map (·.1))) := lenOk_s (by simp [strsD]; omega)
  have n1 : decide (("at" : Str) = "lost") = false := by decide +kernel
  have n2 : decide (("round" : Str) = "lost") = false := by decide +kernel
  have l1 := s_lookup oL hx
  have len1 := oL.end_len hx
  unfold goD
  have iL : iterS (tbD L) = some (L.map rowD) := rfl
  have iM : iterS (tbD M) = some (M.map rowD) := rfl
  simp only [g__law_goes_on, b__law_goes_on, B__law_goes_on, Option.bind_some, consO_s, bin_s, dIx_t0, dIx_t1, l1, iL, iM, keys_lc, kL, kM, Option.map_some]
  cases q : (endOf L x).1 with
  | at_ n => simp [endD, q, resD, wdD, n1]
  | round z => simp [endD, q, resD, wdD, n2]
  | lost z =>
    dsimp only
    have hz := oL.end_z hx z (.inr q)
    have im : dIn (.str z) (.list (strsD (M.map (·.1)))) = some (.bool (decide (z ∈ M.map (·.1)))) := in_strs hz.nice hkM
    have l2 := s_lookup oM hz
    have len2 := oM.end_len hz
    by_cases hm : z ∈ M.map (·.1)
    · have im' : dNotIn (.str z) (.list (strsD (M.map (·.1)))) = some (.bool false) := by simp only [dNotIn, im, decide_eq_true hm]; rfl
      rw [if_pos hm]
      have plus : ∀ g : List Str, g.length ≤ 41 → dPlus (.tuple (strsD (endOf L x).2).dropLast) (.tuple (strsD g)) = some (.tuple (strsD ((endOf L x).2.dropLast ++ g))) := fun g hg => by
        rw [dPlus_tt (by simp [strsD]; omega)]
        simp [strsD, List.map_dropLast]
      cases p : (endOf M z).1 with
      | at_ n => simp [endD, q, p, resD, wdD, im', l2, n1, plus _ len2]
      | round n => simp [endD, q, p, resD, wdD, im', l2, n2, plus _ len2]
      | lost y =>
        dsimp only
        have hy := oM.end_z hz y (.inr p)
        have il : dIn (.str y) (.list (strsD (L.map (·.1)))) = some (.bool (decide (y ∈ L.map (·.1)))) := in_strs hy.nice hkL
        by_cases hyl : y ∈ L.map (·.1)
        · rw [decide_eq_true hyl] at il
          rw [if_pos hyl]
          simp [endD, q, p, resD, wdD, im', l2, il]
        · rw [decide_eq_false hyl] at il
          rw [if_neg hyl]
          simp [endD, q, p, resD, wdD, im', l2, il, plus _ len2]
    · have im' : dNotIn (.str z) (.list (strsD (M.map (·.1)))) = some (.bool true) := by simp only [dNotIn, im, decide_eq_false hm]; rfl
      rw [if_neg hm]
      simp [endD, q, resD, wdD, im']
/-- in a tuple of names -/
theorem int_strs (z : Str) (g : List Str) : dIn (.str z) (.tuple (strsD g)) = some (.bool (decide (z ∈ g))) := by
  have h : (strsD g).all flatD = true := by
    rw [List.all_eq_true]
    intro d hd
    obtain ⟨y, _, rfl⟩ := List.mem_map.mp hd
    rfl
  show (if flatD (.str z) && (strsD g).all flatD then some (PyData.bool _) else none) = _
  rw [h, if_pos (show (flatD (.str z) && true) = true from rfl), any_strs]
theorem mem_at {B : Tb} (o : OkT B) {x : Str} {k : Int} (hx : x ∈ B.map (·.1)) (h : (endOf B x).1 = .at_ k) : x ∈ atT B k := by
  obtain ⟨p, hp, rfl⟩ := List.mem_map.mp hx
  exact List.mem_map_of_mem (List.mem_filter.mpr ⟨hp, by rw [h]; exact decide_eq_true rfl⟩)
theorem s_lap {L M B : Tb} (oL : OkT L) (oM : OkT M) (oB : OkT B) (hB : ∀ y, gt B y = K66.orT (gt L) (gt M) y) (dis : ∀ y, y ∈ L.map (·.1) → y ∉ M.map (·.1)) (hsub : ∀ y ∈ L.map (·.1), y ∈ B.map (·.1)) (hne : L ≠ []) {k : Nat} {ps : List D} (hp : Pot k ps) (hk : k < 2 ^ 50) (i : D) :
    ∃ ps', L1__law_is_lot_right (.tuple [tbD L, tbD M]) (tbD B) (.list (strsD (L.map (·.1)))) (.tuple (strsD (badT B))) ps i = some (.nx ps') ∧ Pot (k + 1) ps' := by
  have lL := oL.len
  obtain ⟨j, hj, ps', e, hp'⟩ := ofl_ok (xs := strsD (L.map (·.1))) hp (by omega) (by
    cases L with
    | nil => exact absurd rfl hne
    | cons p r => simp [strsD]) (by simp [strsD]; omega)
  refine ⟨ps', ?_, hp'⟩
  have hj' : j < L.length := by simpa [strsD] using hj
  have ex : (strsD (L.map (·.1)))[j] = .str L[j].1 := by simp [strsD]
  rw [ex] at e
  have hn : isnm L[j].1 := oL.nms _ (List.getElem_mem hj')
  have hxL : L[j].1 ∈ L.map (·.1) := List.mem_map_of_mem (List.getElem_mem hj')
  have hxB := hsub _ hxL
  generalize L[j].1 = x at e hn hxL hxB
  have eg := s_goes oL oM hn
  have el := s_lookup oB hn
  obtain ⟨s, es⟩ := repr_end oB hn
  have eb := int_strs x (badT B)
  rw [mem_bad oB hxB] at eb
  obtain ⟨r, er⟩ := (endOf_walk oB hn).pre
  have n1 : decide (("at" : Str) = "round") = false := by decide +kernel
  have n2 : decide (("round" : Str) = "at") = false := by decide +kernel
  have n3 : decide (("lost" : Str) = "at") = false := by decide +kernel
  have n4 : decide (("lost" : Str) = "round") = false := by decide +kernel
  have first : dIx (.tuple (strsD (endOf B x).2)) (.int 0) = some (.str x) := by rw [er]; simp [strsD]
  have due : goD L M x = .none ∨ goD L M x = endD B x := go_both oL oM hB dis hn
  cases q : (endOf B x).1 with
  | at_ n =>
    have en := oB.end_n hn n q
    have ea := s_at oB en.1 en.2
    have em := int_strs x (atT B n)
    rw [decide_eq_true (mem_at oB hxB q)] at em
    rw [q] at eb
    simp only [endD, q, resD, wdD, List.cons_append, List.nil_append] at el es due
    rcases due with h | h
    · simp [L1__law_is_lot_right, e, eg, el, h, eb, isAt, first, n1, ea, dNotIn, em]
    · simp [L1__law_is_lot_right, e, eg, el, h, es, eb, isAt, first, n1, ea, dNotIn, em]
  | round z =>
    have em := int_strs z (endOf B x).2
    rw [decide_eq_true ((endOf_walk oB hn).round_mem z q)] at em
    rw [q] at eb
    simp only [endD, q, resD, wdD, List.cons_append, List.nil_append] at el es due
    rcases due with h | h
    · simp [L1__law_is_lot_right, e, eg, el, h, eb, isAt, first, n2, dNotIn, em]
    · simp [L1__law_is_lot_right, e, eg, el, h, es, eb, isAt, first, n2, dNotIn, em]
  | lost z =>
    rw [q] at eb
    simp only [endD, q, resD, wdD, List.cons_append, List.nil_append] at el es due
    rcases due with h | h
    · simp [L1__law_is_lot_right, e, eg, el, h, eb, isAt, first, n3, n4]
    · simp [L1__law_is_lot_right, e, eg, el, h, es, eb, isAt, first, n3, n4]
theorem s_lot_right {L M B : Tb} (oL : OkT L) (oM : OkT M) (oB : OkT B) (hB : ∀ y, gt B y = K66.orT (gt L) (gt M) y) (dis : ∀ y, y ∈ L.map (·.1) → y ∉ M.map (·.1)) (hsub : ∀ y ∈ L.map (·.1), y ∈ B.map (·.1)) (hne : L ≠ []) {k : Nat} {ps : List D} (hp : Pot k ps) (hk : k < 2 ^ 40) :
    ∃ ps', g__law_is_lot_right ps [.tuple [tbD L, tbD M], tbD B] = some (.bool true, ps') ∧ Pot (k + 4) ps' := by
  have lL := oL.len
  obtain ⟨ps', e, hp'⟩ := forF_rel (f := fun l x => (some x).bind (L1__law_is_lot_right (.tuple [tbD L, tbD M]) (tbD B) (.list (strsD (L.map (·.1)))) (.tuple (strsD (badT B))) l)) (fun i ps => Pot (k + i) ps) ((List.range 4).map fun i => .int (i : Nat)) ps 0 hp fun i x l hi hl => by
    rw [Nat.zero_add] at hl ⊢
    have hi4 : i < 4 := by
      have := (List.getElem?_eq_some_iff.mp hi).1
      simpa using this
    obtain ⟨ps', e, h⟩ := s_lap oL oM oB hB dis hsub hne hl (by omega) x
    exact ⟨ps', e, h⟩
  refine ⟨ps', ?_, by simpa using hp'⟩
  have r4 : dR1 (.int 4) = some ((List.range 4).map fun i => .int (i : Nat)) := range_0 (n := 4) (by decide)
  have kL : lenOk (some (strsD (L.map (·.1)))) = some (strsD (L.map (·.1))) := lenOk_s (by simp [strsD]; omega)
  simp only [Option.bind_some] at e
  simp only [g__law_is_lot_right, b__law_is_lot_right, B__law_is_lot_right, Option.bind_some, consO_s, bin_s, dIx_t0, s_bad oB]
  rw [show iterS (tbD L) = some (L.map rowD) from rfl, Option.bind_some, keys_lc, kL, Option.bind_some, r4, Option.bind_some, e]
  rfl
end DL

set_option Elab.async false
set_option linter.all false
set_option maxRecDepth 100000
set_option maxHeartbeats 2000000
set_option autoImplicit false
namespace DL
open PySem PySem.Spec PyProof.Rows L2 K66
/-! ### drawn lots -/
def tn (n : Nat) : Str := Str.ofString (toString (10 + (n : Int)))
theorem nm_len' : ∀ c : Fin 4, ∀ n : Fin 32, decide ((sg c).length + (tn n.1).length ≤ 1000) = true := by decide +kernel
theorem plus_nm (c : Fin 4) {n : Nat} (h : n < 32) : dPlus (.str (sg c)) (.str (tn n)) = some (.str (nm c n)) := by
  show (if _ then _ else _) = _
  have : (sg c).length + (tn n).length ≤ 1000 := of_decide_eq_true (nm_len' c ⟨n, h⟩)
  rw [if_pos (Nat.le_trans this (by decide))]
  rfl
theorem str_nm {n : Nat} (h : n < 32) : dStr [.int (10 + (n : Int))] = some (.str (tn n)) := by
  show (if _ then _ else _) = _
  rw [if_pos (log_of (show (10 + (n : Int)).natAbs < 10 ^ 18 by omega))]
  rfl
theorem ten_nm (c : Fin 4) : dPlus (.str (sg c)) (.str "10") = some (.str (nm c 0)) := by
  have : (Str.ofString "10") = tn 0 := by decide +kernel
  rw [this]
  exact plus_nm c (by decide)
theorem dNe_2 {a b : Str} {x y : D} (ha : nice (.str a) = true) (hb : nice (.str b) = true) (hx : nice x = true) (hy : nice y = true) (dx : x.depth = 0) (dy : y.depth = 0) : dNe (.tuple [.str a, x]) (.tuple [.str b, y]) = some (.bool (!(decide (a = b) && PyData.eqv x y))) := by
  rw [dNe_nice (nice2 ha hx) (nice2 hb hy) (depth2 rfl dx) (depth2 rfl dy)]
  by_cases h : a = b <;> simp [PyData.eqv, PyData.eqvAll, h]
/-- names of sign c, standing for names of signs c, d -/
structure Lot (c d : Fin 4) (i : Nat) (T : Tb) : Prop where
  len : T.length ≤ i
  up : T.Pairwise fun p q => p.1.cps.toList < q.1.cps.toList
  nms : ∀ p ∈ T, ∃ n, n < i ∧ p.1 = nm c n
  gls : ∀ p ∈ T, okG p.2
  als : ∀ p ∈ T, ∀ z, p.2 = .also z → ∃ e n, (e = c ∨ e = d) ∧ n < 32 ∧ z = nm e n
  ne : 0 < i → T ≠ []
theorem Lot.ok {c d : Fin 4} {i : Nat} {T : Tb} (h : Lot c d i T) (hi : i ≤ 32) : OkT T :=
  ⟨by have := h.len; omega, h.up, fun p hp => by
    obtain ⟨n, hn, e⟩ := h.nms p hp
    exact ⟨c, n, by omega, e⟩, h.gls⟩
theorem Lot.nil (c d : Fin 4) : Lot c d 0 [] := ⟨by simp, by simp, by simp, by simp, by simp, by simp⟩
theorem Lot.more {c d : Fin 4} {i : Nat} {T : Tb} (h : Lot c d i T) (hi : i < 32) {g : Gl Str} (hg : okG g) (ha : ∀ z, g = .also z → ∃ e n, (e = c ∨ e = d) ∧ n < 32 ∧ z = nm e n) : Lot c d (i + 1) (T ++ [(nm c i, g)]) where
  len := by have := h.len; simp; omega
  up := by
    rw [List.pairwise_append]
    refine ⟨h.up, by simp, fun p hp q hq => ?_⟩
    rw [List.mem_singleton.mp hq]
    obtain ⟨n, hn, e⟩ := h.nms p hp
    rw [e]
    exact nm_lt' c ⟨n, by omega⟩ ⟨i, hi⟩ hn
  nms := fun p hp => by
    rcases List.mem_append.mp hp with hp | hp
    · obtain ⟨n, hn, e⟩ := h.nms p hp
      exact ⟨n, by omega, e⟩
    · rw [List.mem_singleton.mp hp]
      exact ⟨i, by omega, rfl⟩
  gls := fun p hp => by
    rcases List.mem_append.mp hp with hp | hp
    · exact h.gls p hp
    · rw [List.mem_singleton.mp hp]
      exact hg
  als := fun p hp => by
    rcases List.mem_append.mp hp with hp | hp
    · exact h.als p hp
    · rw [List.mem_singleton.mp hp]
      exact ha
  ne := fun _ => by simp
theorem Lot.less {c d : Fin 4} {i : Nat} {T : Tb} (h : Lot c d i T) (hi : 0 < i) : Lot c d (i + 1) T where
  len := by have := h.len; omega
  up := h.up
  nms := fun p hp => by
    obtain ⟨n, hn, e⟩ := h.nms p hp
    exact ⟨n, by omega, e⟩
  gls := h.gls
  als := h.als
  ne := fun _ => h.ne hi
def notS (y : Str) : Gl Str → Bool
  | .at_ _ => true
  | .also z => !decide (z = y)
theorem lot_step {c d : Fin 4} {many : Nat} (hm : many ≤ 14) {k : Nat} {ps : List D} (hp : Pot k ps) (hk : k < 2 ^ 50) {i : Nat} (hi : i < many) {T : Tb} (h : Lot c d i T) :
    ∃ T' ps', L1__law_lot (.str (sg c)) (.str (sg d)) (.int (many : Nat)) (ps, T.map rowD) (.int (i : Nat)) = some (.nx (ps', T'.map rowD)) ∧ Lot c d (i + 1) T' ∧ Pot (k + 2) ps' := by
  have hlT := h.len
  obtain ⟨way, p1, e1, w0, w1, hp1⟩ := take_ok (u := 6) hp (by omega) (by decide) (by decide)
  have hi32 : i < 32 := by omega
  have row : ∀ g : Gl Str, appD (T.map rowD) (.tuple [.str (nm c i), glD g]) = some ((T ++ [(nm c i, g)]).map rowD) := fun g => by
    rw [appD_s (by simp; omega)]
    simp [rowD]
  have nmi : nice (.str (nm c i)) = true := nm_nice' c ⟨i, hi32⟩
  have a1 := str_nm hi32
  have a2 := plus_nm c hi32
  have ia : decide (("at" : Str) = "also") = false := by decide +kernel
  have fin : ∀ (g : Gl Str) (p2 : List D), okG g → (∀ z, g = .also z → ∃ e n, (e = c ∨ e = d) ∧ n < 32 ∧ z = nm e n) → ∃ T' : Tb,
      ((iteO ((bin dNe (some (glD g)) ((lenOk (consO (some (.str "also")) (consO (bin dPlus (some (.str (sg c))) ((consO (bin dPlus (some (.int 10)) (some (.int (i : Nat)))) (some [])).bind dStr)) (some [])))).map .tuple)).bind isB) ((((lenOk (consO (bin dPlus (some (.str (sg c))) ((consO (bin dPlus (some (.int 10)) (some (.int (i : Nat)))) (some [])).bind dStr)) (consO (some (glD g)) (some [])))).map .tuple).bind (appD (T.map rowD))).bind fun v28 => (some (.nx v28))) ((iteO ((bin dEq (some (.int (i : Nat))) (some (.int 0))).bind isB) ((((lenOk (consO (bin dPlus (some (.str (sg c))) (some (.str "10"))) (consO ((lenOk (consO (some (.str "at")) (consO (some (.int 3)) (some [])))).map .tuple) (some [])))).map .tuple).bind (appD (T.map rowD))).bind fun v32 => (some (.nx v32))) (some (.nx (T.map rowD))) : Option (Fl (List D) (List D × List D) (D × List D))).bind (seqFl fun n31 => (some (.nx n31)))) : Option (Fl (List D) (List D × List D) (D × List D))).bind (seqFl fun n27 => (some (.nx (p2, n27)) : Option (Fl (List D × List D) (List D × List D) (D × List D))))) = some (.nx (p2, T'.map rowD)) ∧ Lot c d (i + 1) T' := by
    intro g p2 hg ha
    have en : bin dNe (some (glD g)) ((lenOk (consO (some (.str "also")) (consO (bin dPlus (some (.str (sg c))) ((consO (bin dPlus (some (.int 10)) (some (.int (i : Nat)))) (some [])).bind dStr)) (some [])))).map .tuple) = some (.bool (notS (nm c i) g)) := by
      cases g with
      | at_ n => simp [a1, a2, glD, dNe_2 nice_at nice_also (nice_int (show n.natAbs < 10 ^ 18 by have : 0 ≤ n ∧ n < 4 := hg; omega)) nmi rfl rfl, ia, notS]
      | also z => simp [a1, a2, glD, dNe_2 nice_also nice_also (isnm.nice hg) nmi rfl rfl, eqv_ss, notS]
    rw [en]
    have rg := row g
    by_cases hs : ∃ z, g = .also z ∧ z = nm c i
    · obtain ⟨z, rfl, rfl⟩ := hs
      by_cases h0 : i = 0
      · subst h0
        refine ⟨T ++ [(nm c 0, .at_ 3)], ?_, h.more (g := .at_ 3) (by decide) (show (0 : Int) ≤ 3 ∧ (3 : Int) < 4 by decide) fun z hz => by cases hz⟩
        have r3 := row (.at_ 3)
        simp only [glD] at r3
        simp [ten_nm, r3, notS]
      · refine ⟨T, ?_, h.less (by omega)⟩
        simp [h0, notS]
    · refine ⟨T ++ [(nm c i, g)], ?_, h.more hi32 hg ha⟩
      have et : notS (nm c i) g = true := by
        cases g with
        | at_ n => rfl
        | also z => simp only [notS, Bool.not_eq_true', decide_eq_false_iff_not]; exact fun e => hs ⟨z, rfl, e⟩
      rw [et]
      simp [a1, a2, rg]
  by_cases c1 : way < 2
  · obtain ⟨n, p2, e2, n0, n1, hp2⟩ := take_ok (u := 4) hp1 (by omega) (by decide) (by decide)
    obtain ⟨T', f1, f2⟩ := fin (.at_ n) p2 ⟨n0, n1⟩ fun z hz => by cases hz
    refine ⟨T', p2, ?_, f2, hp2⟩
    rw [← f1]
    simp [L1__law_lot, e1, c1, e2, glD]
  · by_cases c2 : way < 5
    · obtain ⟨n, p2, e2, n0, n1, hp2⟩ := take_ok (u := (many : Nat) + 1) hp1 (by omega) (by omega) (by omega)
      obtain ⟨m, rfl⟩ := Int.eq_ofNat_of_zero_le n0
      have hm32 : m < 32 := by omega
      have b1 := str_nm hm32
      have b2 := plus_nm c hm32
      obtain ⟨T', f1, f2⟩ := fin (.also (nm c m)) p2 ⟨c, m, hm32, rfl⟩ fun z hz => by cases hz; exact ⟨c, m, .inl rfl, hm32, rfl⟩
      refine ⟨T', p2, ?_, f2, hp2⟩
      rw [← f1]
      simp [L1__law_lot, e1, c1, c2, e2, glD, b1, b2]
    · obtain ⟨n, p2, e2, n0, n1, hp2⟩ := take_ok (u := 16) hp1 (by omega) (by decide) (by decide)
      obtain ⟨m, rfl⟩ := Int.eq_ofNat_of_zero_le n0
      have hm32 : m < 32 := by omega
      have b1 := str_nm hm32
      have b2 := plus_nm d hm32
      obtain ⟨T', f1, f2⟩ := fin (.also (nm d m)) p2 ⟨d, m, hm32, rfl⟩ fun z hz => by cases hz; exact ⟨d, m, .inr rfl, hm32, rfl⟩
      refine ⟨T', p2, ?_, f2, hp2⟩
      rw [← f1]
      simp [L1__law_lot, e1, c1, c2, e2, glD, b1, b2]
theorem lot_ok (c d : Fin 4) {many : Nat} (h1 : 1 ≤ many) (hm : many ≤ 14) {k : Nat} {ps : List D} (hp : Pot k ps) (hk : k < 2 ^ 40) :
    ∃ T ps', g__law_lot ps [.str (sg c), .str (sg d), .int (many : Nat)] = some (tbD T, ps') ∧ Lot c d many T ∧ Pot (k + 28) ps' := by
  obtain ⟨l', e, h2, T, h3, h4⟩ := forF_rel (f := fun l x => (some x).bind (L1__law_lot (.str (sg c)) (.str (sg d)) (.int (many : Nat)) l)) (fun i l => Pot (k + 2 * i) l.1 ∧ ∃ T : Tb, l.2 = T.map rowD ∧ Lot c d i T) ((List.range many).map fun i => .int (i : Nat)) (ps, []) 0 ⟨hp, [], rfl, Lot.nil c d⟩ fun i x l hi hl => by
    rw [Nat.zero_add] at hl ⊢
    obtain ⟨q1, q2⟩ := List.getElem?_eq_some_iff.mp hi
    have hi' : i < many := by simpa using q1
    have hx : x = .int (i : Nat) := by rw [← q2]; simp
    obtain ⟨l1, l2⟩ := l
    obtain ⟨g1, T, g2, g3⟩ := hl
    dsimp only at g1 g2
    subst g2 hx
    obtain ⟨T', ps', r1, r2, r3⟩ := lot_step (c := c) (d := d) hm g1 (by omega) hi' g3
    refine ⟨(ps', T'.map rowD), r1, ?_, T', rfl, r2⟩
    rw [show k + 2 * (i + 1) = k + 2 * i + 2 by omega]
    exact r3
  obtain ⟨l1, l2⟩ := l'
  dsimp only at h2 h3
  subst h3
  simp only [List.length_map, List.length_range, Nat.zero_add] at h2 h4
  refine ⟨T, l1, ?_, h4, h2.up (by omega)⟩
  simp only [Option.bind_some] at e
  simp only [g__law_lot, b__law_lot, B__law_lot, Option.bind_some, lenOk_s (show ([] : List D).length ≤ 100000 by decide), range_0 (n := many) (by omega), e]
  rfl
end DL

set_option Elab.async false
set_option linter.all false
set_option maxRecDepth 100000
set_option maxHeartbeats 2000000
set_option autoImplicit false
namespace DL
open PySem PySem.Spec PyProof.Rows L2 K66
/-! ### plain data -/
theorem nice_gl {q : Gl Str} (h : okG q) : nice (glD q) = true := by
  cases q with
  | at_ n => exact nice2 nice_at (nice_int (show n.natAbs < 10 ^ 18 by have : 0 ≤ n ∧ n < 4 := h; omega))
  | also z => exact nice2 nice_also (isnm.nice h)
theorem depth_gl (q : Gl Str) : (glD q).depth = 1 := by cases q <;> rfl
theorem depth_rows (T : Tb) : (tbD T).depth ≤ 64 ∧ (PyData.list (T.map rowD)).depth ≤ 64 := by
  have h : PyData.depthAll (T.map rowD) ≤ 2 := depthAll_le fun d hd => by
    obtain ⟨p, _, rfl⟩ := List.mem_map.mp hd
    show max 0 (max (glD p.2).depth 0) + 1 ≤ 2
    rw [depth_gl]
    decide
  exact ⟨by show PyData.depthAll (T.map rowD) + 1 ≤ 64; omega, by show PyData.depthAll (T.map rowD) + 1 ≤ 64; omega⟩
theorem nice_tb {T : Tb} (h : ∀ p ∈ T, isnm p.1 ∧ okG p.2) : nice (tbD T) = true := by
  show niceAll _ = true
  rw [niceAll_iff]
  intro d hd
  obtain ⟨p, hp, rfl⟩ := List.mem_map.mp hd
  exact nice2 (h p hp).1.nice (nice_gl (h p hp).2)
theorem OkT.nice {T : Tb} (o : OkT T) : DL.nice (tbD T) = true := nice_tb fun p hp => ⟨o.nms p hp, o.gls p hp⟩
theorem mem_str {B : Tb} {p : Str × Gl Str} (h : p ∈ strT B) : p.1 ∈ B.map (·.1) ∧ ∃ n, (endOf B p.1).1 = .at_ n ∧ p.2 = .at_ n := by
  obtain ⟨q, hq, e⟩ := List.mem_filterMap.mp h
  unfold strF at e
  split at e
  · rename_i n en
    cases e
    exact ⟨List.mem_map.mpr ⟨q, hq, rfl⟩, n, en, rfl⟩
  · cases e
theorem key_nm {T : Tb} (o : OkT T) {x : Str} (h : x ∈ T.map (·.1)) : isnm x := by
  obtain ⟨p, hp, rfl⟩ := List.mem_map.mp h
  exact o.nms p hp
theorem nice_str {B : Tb} (o : OkT B) : DL.nice (tbD (strT B)) = true := nice_tb fun p hp => by
  obtain ⟨h1, n, h2, h3⟩ := mem_str hp
  have hx := key_nm o h1
  exact ⟨hx, by rw [h3]; exact o.end_n hx n h2⟩
theorem same_tb {T : Tb} (h : DL.nice (tbD T) = true) : dNe (tbD T) (tbD T) = some (.bool false) := dNe_self h (depth_rows T).1
theorem bad_nm {B : Tb} (o : OkT B) : ∀ y ∈ badT B, isnm y := fun y hy => by
  obtain ⟨p, hp, rfl⟩ := List.mem_map.mp hy
  exact o.nms p (List.mem_filter.mp hp).1
theorem at_nm {B : Tb} (o : OkT B) (k : Int) : ∀ y ∈ atT B k, isnm y := fun y hy => by
  obtain ⟨p, hp, rfl⟩ := List.mem_map.mp hy
  exact o.nms p (List.mem_filter.mp hp).1
theorem same_strs {g : List Str} (h : ∀ y ∈ g, isnm y) : dNe (.tuple (strsD g)) (.tuple (strsD g)) = some (.bool false) ∧ dNe (.list (strsD g)) (.list (strsD g)) = some (.bool false) := by
  have h1 : DL.nice (.list (strsD g)) = true := nice_strs fun y hy => (h y hy).nice
  have h2 : DL.nice (.tuple (strsD g)) = true := h1
  have d := depth_strs g
  exact ⟨dNe_self h2 (by show PyData.depthAll (strsD g) + 1 ≤ 64; omega), dNe_self h1 (by show PyData.depthAll (strsD g) + 1 ≤ 64; omega)⟩
/-! sorted rows -/
theorem alike_self_gl (q : Gl Str) : PySem.W.alike (glD q) (glD q) = true ∧ PyData.eqv (glD q) (glD q) = true := by
  cases q <;> exact ⟨by simp [glD, PySem.W.alike, PySem.W.alikeAll], by simp [glD, PyData.eqv, PyData.eqvAll]⟩
theorem cmp_row {p q : Str × Gl Str} (h : p.1 = q.1 → p = q) : cmpT (rowD p) (rowD q) = true := by
  show (PySem.W.alike (.str p.1) (.str q.1) && (!PyData.eqv (.str p.1) (.str q.1) || cmpAll [glD p.2] [glD q.2])) = true
  rw [eqv_ss]
  by_cases e : p.1 = q.1
  · have := h e
    subst this
    obtain ⟨a1, a2⟩ := alike_self_gl p.2
    simp [PySem.W.alike, cmpAll, a1, a2]
  · simp [PySem.W.alike, e]
theorem lt_row {p q : Str × Gl Str} (h : p.1.cps.toList < q.1.cps.toList) : PySem.W.dataLt (rowD p) (rowD q) = true := by
  have ne : p.1 ≠ q.1 := fun e => by
    rw [e] at h
    exact List.lt_irrefl _ h
  unfold rowD
  rw [PySem.W.dataLt_tuple, PySem.W.dataLt_all_no (x := .str p.1) (y := .str q.1) (by simp [PySem.W.alike]) (by rw [eqv_ss, decide_eq_false ne]), lt_str, decide_eq_true h]
theorem s_sorted {T U : Tb} (hp : T.Perm U) (o : OkT U) : dSorted [tbD T] = some (U.map rowD) := by
  have hl : T.length ≤ 40 := by rw [hp.length_eq]; exact o.len
  have ok : sortOk2 (T.map rowD) = true := by
    unfold sortOk2
    rw [Bool.and_eq_true, List.all_eq_true]
    refine ⟨decide_eq_true (by rw [List.length_map]; omega), fun d hd => ?_⟩
    obtain ⟨p, hp1, rfl⟩ := List.mem_map.mp hd
    have n1 : DL.nice (rowD p) = true := nice2 (o.nms p (hp.mem_iff.mp hp1)).nice (nice_gl (o.gls p (hp.mem_iff.mp hp1)))
    have n2 := (nice_show _ n1).2.1
    have n3 : (rowD p).depth ≤ 64 := by
      show max 0 (max (glD p.2).depth 0) + 1 ≤ 64
      rw [depth_gl]; decide
    have n4 : ((T.map rowD).all fun d' => cmpT (rowD p) d') = true := by
      rw [List.all_eq_true]
      intro d' hd'
      obtain ⟨q, hq1, rfl⟩ := List.mem_map.mp hd'
      refine cmp_row fun e => ?_
      have g1 := gt_of o.nodup (hp.mem_iff.mp hp1)
      have g2 := gt_of o.nodup (hp.mem_iff.mp hq1)
      rw [e, g2] at g1
      exact Prod.ext e (Option.some.inj g1).symm
    rw [n2, decide_eq_true n3, n4]
    rfl
  show (if sortOk (T.map rowD) || sortOk2 (T.map rowD) then some (sortedD (T.map rowD)) else none) = _
  rw [ok, Bool.or_true, if_pos rfl, sorted_unique (hp.map rowD) ?_]
  rw [List.pairwise_map]
  exact o.up.imp fun h => lt_row h
/-! ### both lots -/
structure Two (ap : Bool) (L M : Tb) : Prop where
  l : Lot 0 (if ap then 2 else 1) 14 L
  m : Lot 1 (if ap then 3 else 0) 14 M
theorem Lot.up14 {c d : Fin 4} {i : Nat} {T : Tb} (h : Lot c d i T) (h1 : 1 ≤ i) (hi : i ≤ 14) : Lot c d 14 T where
  len := by have := h.len; omega
  up := h.up
  nms := fun p hp => by
    obtain ⟨n, hn, e⟩ := h.nms p hp
    exact ⟨n, by omega, e⟩
  gls := h.gls
  als := h.als
  ne := fun _ => h.ne h1
theorem nm_ne {c d : Fin 4} {n m : Nat} (hn : n < 32) (hm : m < 32) (h : c ≠ d) : nm c n ≠ nm d m := fun e => h (nm_inj' c d ⟨n, hn⟩ ⟨m, hm⟩ e).1
section
variable {ap : Bool} {L M : Tb} (t : Two ap L M)
include t
theorem Two.dis : ∀ y, y ∈ L.map (·.1) → y ∉ M.map (·.1) := fun y h1 h2 => by
  obtain ⟨p, hp, rfl⟩ := List.mem_map.mp h1
  obtain ⟨q, hq, e⟩ := List.mem_map.mp h2
  obtain ⟨n, hn, e1⟩ := t.l.nms p hp
  obtain ⟨m, hm, e2⟩ := t.m.nms q hq
  rw [e1, e2] at e
  exact nm_ne (by omega) (by omega) (by decide) e
theorem Two.ok : OkT (L ++ M) where
  len := by have := t.l.len; have := t.m.len; simp; omega
  up := by
    rw [List.pairwise_append]
    refine ⟨t.l.up, t.m.up, fun p hp q hq => ?_⟩
    obtain ⟨n, hn, e1⟩ := t.l.nms p hp
    obtain ⟨m, hm, e2⟩ := t.m.nms q hq
    rw [e1, e2]
    exact nm_ab' ⟨n, by omega⟩ ⟨m, by omega⟩
  nms := fun p hp => by
    rcases List.mem_append.mp hp with hp | hp
    · exact (t.l.ok (by decide)).nms p hp
    · exact (t.m.ok (by decide)).nms p hp
  gls := fun p hp => by
    rcases List.mem_append.mp hp with hp | hp
    · exact t.l.gls p hp
    · exact t.m.gls p hp
theorem Two.swap (y : Str) : gt (L ++ M) y = K66.orT (gt M) (gt L) y := by
  rw [gt_append]
  by_cases h : y ∈ L.map (·.1)
  · rw [orT_l (gt_some h), orT_r (gt_none (t.dis y h))]
  · rw [orT_r (gt_none h)]
    by_cases h2 : y ∈ M.map (·.1)
    · rw [orT_l (gt_some h2)]
    · rw [orT_r (gt_none h2), gt_none h, gt_none h2]
theorem Two.endL (ha : ap = true) {x : Str} (hx : x ∈ L.map (·.1)) : endOf (L ++ M) x = endOf L x :=
  end_apart (t.l.ok (by decide)) (fun y => gt_append L M y) t.dis (fun y z e h => by
    obtain ⟨c, n, hc, hn, rfl⟩ := t.l.als _ (gt_mem e) z rfl
    obtain ⟨q, hq, e2⟩ := List.mem_map.mp h
    obtain ⟨m, hm, e3⟩ := t.m.nms q hq
    rw [e3] at e2
    subst ha
    refine nm_ne (c := 1) (d := c) (by omega) hn ?_ e2
    rcases hc with rfl | rfl <;> decide) hx (key_nm (t.l.ok (by decide)) hx)
theorem Two.endM (ha : ap = true) {x : Str} (hx : x ∈ M.map (·.1)) : endOf (L ++ M) x = endOf M x :=
  end_apart (t.m.ok (by decide)) t.swap (fun y h1 h2 => t.dis y h2 h1) (fun y z e h => by
    obtain ⟨c, n, hc, hn, rfl⟩ := t.m.als _ (gt_mem e) z rfl
    obtain ⟨q, hq, e2⟩ := List.mem_map.mp h
    obtain ⟨m, hm, e3⟩ := t.l.nms q hq
    rw [e3] at e2
    subst ha
    refine nm_ne (c := 0) (d := c) (by omega) hn ?_ e2
    rcases hc with rfl | rfl <;> decide) hx (key_nm (t.m.ok (by decide)) hx)
theorem Two.bad (ha : ap = true) : badT (L ++ M) = badT L ++ badT M := by
  unfold badT
  rw [List.filter_append, List.map_append]
  congr 2
  · exact List.filter_congr fun p hp => by rw [t.endL ha (List.mem_map_of_mem hp)]
  · exact List.filter_congr fun p hp => by rw [t.endM ha (List.mem_map_of_mem hp)]
theorem Two.at_ (ha : ap = true) (k : Int) : atT (L ++ M) k = atT L k ++ atT M k := by
  unfold atT
  rw [List.filter_append, List.map_append]
  congr 2
  · exact List.filter_congr fun p hp => by rw [t.endL ha (List.mem_map_of_mem hp)]
  · exact List.filter_congr fun p hp => by rw [t.endM ha (List.mem_map_of_mem hp)]
theorem Two.str (ha : ap = true) : strT (L ++ M) = strT L ++ strT M := by
  unfold strT
  rw [List.filterMap_append]
  congr 1
  · exact fm_congr fun p hp => by unfold strF; rw [t.endL ha (List.mem_map_of_mem hp)]
  · exact fm_congr fun p hp => by unfold strF; rw [t.endM ha (List.mem_map_of_mem hp)]
end
end DL

set_option Elab.async false
set_option linter.all false
set_option maxRecDepth 100000
set_option maxHeartbeats 4000000
set_option autoImplicit false
namespace DL
open PySem PySem.Spec PyProof.Rows L2 K66
/-! ### the whole law -/
theorem plus_tb {T U : Tb} (h1 : T.length ≤ 40) (h2 : U.length ≤ 40) : dPlus (tbD T) (tbD U) = some (tbD (T ++ U)) := by
  show dPlus (.tuple _) (.tuple _) = _
  rw [dPlus_tt (by simp; omega)]
  simp [tbD]
theorem plus_strs {T U : List Str} (h1 : T.length ≤ 40) (h2 : U.length ≤ 40) : dPlus (.tuple (strsD T)) (.tuple (strsD U)) = some (.tuple (strsD (T ++ U))) := by
  rw [dPlus_tt (by simp [strsD]; omega)]
  simp [strsD]
theorem len_bad (T : Tb) : (badT T).length ≤ T.length := by unfold badT; rw [List.length_map]; exact List.length_filter_le _ _
theorem len_at (T : Tb) (k : Int) : (atT T k).length ≤ T.length := by unfold atT; rw [List.length_map]; exact List.length_filter_le _ _
theorem len_str (T : Tb) : (strT T).length ≤ T.length := List.length_filterMap_le _ _
/-- the part for lots apart -/
theorem s_num {ap : Bool} {L M : Tb} (t : Two ap L M) (ha : ap = true) (ps : List D) {k : Nat} (hk : k < 4) : L1__law_right ps (.tuple [tbD L, tbD M]) (tbD (L ++ M)) () (.int (k : Nat)) = some (.nx ()) := by
  have oL := t.l.ok (by decide)
  have oM := t.m.ok (by decide)
  have e1 := s_at t.ok (k := (k : Nat)) (by omega) (by omega)
  have e2 := s_at oL (k := (k : Nat)) (by omega) (by omega)
  have e3 := s_at oM (k := (k : Nat)) (by omega) (by omega)
  have h1 := len_at L (k : Nat)
  have h2 := len_at M (k : Nat)
  have l1 := oL.len
  have l2 := oM.len
  have e4 := plus_strs (T := atT L (k : Nat)) (U := atT M (k : Nat)) (by omega) (by omega)
  have e5 := (same_strs (at_nm t.ok (k : Nat))).1
  rw [t.at_ ha] at e1 e5
  simp [L1__law_right, e1, e2, e3, e4, e5]
/-- the names that lead straight -/
theorem s_good {B : Tb} (o : OkT B) (ps : List D) {p : Str × Gl Str} (hp : p ∈ strT B) : L2__law_right ps (tbD B) (tbD (putT B)) () (.str p.1, glD p.2) = some (.nx ()) := by
  obtain ⟨h1, n, h2, h3⟩ := mem_str hp
  have hx := key_nm o h1
  have hn := o.end_n hx n h2
  have e1 := s_lookup (put_ok o) hx
  have e2 := s_lookup o hx
  obtain ⟨s, e3⟩ := repr_end (put_ok o) hx
  have ep := end_put o h1 hx
  rw [h2] at ep
  simp only [endD, ep, resD, wdD, strsD, List.map_cons, List.map_nil, List.cons_append, List.nil_append] at e1 e3
  simp only [endD, h2, resD, wdD, List.cons_append, List.nil_append] at e2
  have e4 : dNe (.tuple [.str "at", .int n]) (.tuple [.str "at", .int n]) = some (.bool false) := dNe_self (nice2 nice_at (nice_int (by omega))) (depth2 rfl rfl)
  have e5 : dNe (.str "at") (.str "at") = some (.bool false) := by rw [dNe_ss]; simp
  rw [h3]
  simp [L2__law_right, glD, e1, e2, e3, e4]
theorem put_lc {B : Tb} (o : OkT B) : lcF some (fun p20 : D => ((bin dIn (bin dIx (some p20) (some (.int 0))) (some (.tuple (strsD (badT B))))).bind isB)) (fun p20 : D => some p20) (B.map rowD) = some ((B.filter fun p => decide (p.1 ∈ badT B)).map rowD) :=
  lcF_map rowD (fun p => decide (p.1 ∈ badT B)) rowD B fun p hp => ⟨rowD p, rfl, by simp [rowD, int_strs], fun _ => rfl⟩
theorem sum_lc {B : Tb} (o : OkT B) : lcF some (fun p31 : D => some true) (fun p31 : D => ((consO ((consO (some (tbD B)) (consO (some p31) (some []))).bind g_names_at) (some [])).bind dLen)) ((List.range 4).map fun i => .int (i : Nat)) = some ([((atT B 0).length : Int), (atT B 1).length, (atT B 2).length, (atT B 3).length].map .int) := by
  have e := lcF_all (pm := some) (me := fun p31 : D => ((consO ((consO (some (tbD B)) (consO (some p31) (some []))).bind g_names_at) (some [])).bind dLen)) (fun i : Nat => .int (i : Nat)) (fun i : Nat => .int ((atT B (i : Nat)).length : Nat)) (List.range 4) fun i hi => ⟨_, rfl, by
    have := List.mem_range.mp hi
    rw [consO_s, consO_s, Option.bind_some, s_at o (k := (i : Nat)) (by omega) (by omega), consO_s, Option.bind_some, dLen_t]
    simp [strsD]⟩
  rw [e]
  rfl
theorem right_ok {ps : List D} (hp : Pot 0 ps) : ∃ ps', g__law_right ps [] = some (.bool true, ps') := by
  obtain ⟨s1, p1, e1, a0, a1, hp1⟩ := take_ok (u := 14) hp (by decide) (by decide) (by decide)
  obtain ⟨s2, p2, e2, b0, b1, hp2⟩ := take_ok (u := 14) hp1 (by decide) (by decide) (by decide)
  obtain ⟨w, p3, e3, c0, c1, hp3⟩ := take_ok (u := 3) hp2 (by decide) (by decide) (by decide)
  obtain ⟨n, rfl⟩ := Int.eq_ofNat_of_zero_le a0
  obtain ⟨m, rfl⟩ := Int.eq_ofNat_of_zero_le b0
  have hap : ∃ ap : Bool, decide (w = 0) = ap := ⟨_, rfl⟩
  obtain ⟨ap, hap⟩ := hap
  obtain ⟨L, p4, e4, hL, hp4⟩ := lot_ok 0 (if ap then 2 else 1) (many := 1 + n) (by omega) (by omega) hp3 (by decide)
  obtain ⟨M, p5, e5, hM, hp5⟩ := lot_ok 1 (if ap then 3 else 0) (many := 1 + m) (by omega) (by omega) hp4 (by decide)
  have t : Two ap L M := ⟨hL.up14 (by omega) (by omega), hM.up14 (by omega) (by omega)⟩
  have oL := t.l.ok (by decide)
  have oM := t.m.ok (by decide)
  have oB := t.ok
  have lL := t.l.len
  have lM := t.m.len
  obtain ⟨p6, e6, hp6⟩ := s_lot_right oL oM oB (gt_append L M) t.dis (fun y hy => by rw [List.map_append]; exact List.mem_append_left _ hy) (t.l.ne (by decide)) hp5 (by decide)
  obtain ⟨p7, e7, hp7⟩ := s_lot_right oM oL oB t.swap (fun y h1 h2 => t.dis y h2 h1) (fun y hy => by rw [List.map_append]; exact List.mem_append_right _ hy) (t.m.ne (by decide)) hp6 (by decide)
  refine ⟨p7, ?_⟩
  have e8 := plus_tb (T := L) (U := M) (by omega) (by omega)
  have x1 := s_bad oB
  have x2 := s_bad oL
  have x3 := s_bad oM
  have y1 := s_straight oB
  have y2 := s_straight oL
  have y3 := s_straight oM
  have lb := len_bad (L ++ M)
  have ls := len_str (L ++ M)
  rw [List.length_append] at lb ls
  have f1 := put_lc oB
  have f2 : lenOk (some ((List.filter (fun p => decide (p.1 ∈ badT (L ++ M))) (L ++ M)).map rowD)) = some ((List.filter (fun p => decide (p.1 ∈ badT (L ++ M))) (L ++ M)).map rowD) := lenOk_s (by
    have := List.length_filter_le (fun p => decide (p.1 ∈ badT (L ++ M))) (L ++ M)
    rw [List.length_append] at this
    rw [List.length_map]
    omega)
  have f3 := plus_tb (T := strT (L ++ M)) (U := List.filter (fun p => decide (p.1 ∈ badT (L ++ M))) (L ++ M)) (by omega) (by
    have := List.length_filter_le (fun p => decide (p.1 ∈ badT (L ++ M))) (L ++ M)
    rw [List.length_append] at this
    omega)
  have f4 := s_sorted (put_sorted oB) (put_ok oB)
  have oP := put_ok oB
  have g1 := s_straight oP
  rw [str_put oB] at g1
  have g2 := s_bad oP
  rw [bad_put oB] at g2
  have g3 := same_tb (nice_str oB)
  have g4 := (same_strs (bad_nm oB)).1
  have kp := keys_lc (putT (L ++ M))
  rw [put_keys] at kp
  have kb := keys_lc (L ++ M)
  have k1 : lenOk (some (strsD ((L ++ M).map (·.1)))) = some (strsD ((L ++ M).map (·.1))) := lenOk_s (by simp [strsD]; omega)
  have k2 := (same_strs (g := (L ++ M).map (·.1)) fun y hy => key_nm oB hy).2
  have r4 : dR1 (.int 4) = some ((List.range 4).map fun i => .int (i : Nat)) := range_0 (n := 4) (by decide)
  have ed : forF (L := Unit) (R := D × List D) (fun l x => ((un2 some some) x).bind (L2__law_right p7 (tbD (L ++ M)) (tbD (putT (L ++ M))) l)) ((strT (L ++ M)).map rowD) () = some (.nx ()) :=
    (forF_fold (f := fun l x => ((un2 some some) x).bind (L2__law_right p7 (tbD (L ++ M)) (tbD (putT (L ++ M))) l)) rowD (fun u : Unit => u) (fun u _ => u) (fun _ _ => True) (strT (L ++ M)) () 0 trivial fun i a s ha _ => ⟨s_good oB p7 (List.mem_of_getElem? ha), trivial⟩).1
  have es := sum_lc oB
  have hc := at_count oB
  rw [show ((1 + n : Nat) : Int) = 1 + (n : Int) by omega] at e4
  rw [show ((1 + m : Nat) : Int) = 1 + (m : Int) by omega] at e5
  have iB : iterS (tbD (L ++ M)) = some ((L ++ M).map rowD) := rfl
  have iP : iterS (tbD (putT (L ++ M))) = some ((putT (L ++ M)).map rowD) := rfl
  have iS : iterS (tbD (strT (L ++ M))) = some ((strT (L ++ M)).map rowD) := rfl
  have tP : (PyData.tuple ((putT (L ++ M)).map rowD)) = tbD (putT (L ++ M)) := rfl
  have lS : dLen [tbD (strT (L ++ M))] = some (.int ((strT (L ++ M)).length : Nat)) := by rw [tbD, dLen_t, List.length_map]
  have tF : (PyData.tuple ((List.filter (fun p => decide (p.1 ∈ badT (L ++ M))) (L ++ M)).map rowD)) = tbD (List.filter (fun p => decide (p.1 ∈ badT (L ++ M))) (L ++ M)) := rfl
  have l4 : lenOk (some ([((atT (L ++ M) 0).length : Int), (atT (L ++ M) 1).length, (atT (L ++ M) 2).length, (atT (L ++ M) 3).length].map .int)) = some ([((atT (L ++ M) 0).length : Int), (atT (L ++ M) 1).length, (atT (L ++ M) 2).length, (atT (L ++ M) 3).length].map .int) := lenOk_s (by simp)
  have s4 : dSum [.list ([((atT (L ++ M) 0).length : Int), (atT (L ++ M) 1).length, (atT (L ++ M) 2).length, (atT (L ++ M) 3).length].map .int)] = some (.int ((strT (L ++ M)).length : Nat)) := by
    have ed : ∀ xs : List Int, dSum [.list (xs.map .int)] = some (.int xs.sum) := fun xs => by
      show (intsD (xs.map .int)).map _ = _
      rw [ints_map]
      rfl
    rw [ed, ← hc]
    simp
    omega
  have tail : ∀ ps' : List D, ((((lenOk (consO ((consO (some (tbD (L ++ M))) (some [])).bind g_straight) (consO ((consO (some (tbD (L ++ M))) (some [])).bind g_bad_names) (some [])))).map .tuple).bind (un2 some some)).bind fun v18 => (some v18 : Option (D × D))) = some (tbD (strT (L ++ M)), .tuple (strsD (badT (L ++ M)))) := fun _ => by
    simp [x1, y1]
  simp only [Option.bind_some, bin_s] at f1
  cases ap with
  | false =>
    have e4' : g__law_lot p3 [.str "a", .str "b", .int (1 + (n : Int))] = some (tbD L, p4) := e4
    have e5' : g__law_lot p4 [.str "b", .str "a", .int (1 + (m : Int))] = some (tbD M, p5) := e5
    simp [-Option.map_bind, -List.map_append, -List.filter_append, g__law_right, b__law_right, B__law_right, e1, e2, e3, hap, e4', e5', e6, e7, e8, x1, y1, revT, iB, f1, f2, tF, f3, f4, tP, iP, kp, kb, k1, k2, g1, g2, g3, g4, iS, ed, r4, lS]
    simp only [consO_s, Option.bind_some] at es
    rw [es, l4, Option.map_some, consO_s, Option.bind_some, s4, bin_s, dEq_ii]
    simp
  | true =>
    have e4' : g__law_lot p3 [.str "a", .str "x", .int (1 + (n : Int))] = some (tbD L, p4) := e4
    have e5' : g__law_lot p4 [.str "b", .str "y", .int (1 + (m : Int))] = some (tbD M, p5) := e5
    have z1 := plus_strs (T := badT L) (U := badT M) (by have := len_bad L; omega) (by have := len_bad M; omega)
    rw [← t.bad rfl] at z1
    have z2 := plus_tb (T := strT L) (U := strT M) (by have := len_str L; omega) (by have := len_str M; omega)
    rw [← t.str rfl] at z2
    have z3 : forF (L := Unit) (R := D × List D) (fun l x => (some x).bind (L1__law_right p7 (.tuple [tbD L, tbD M]) (tbD (L ++ M)) l)) ((List.range 4).map fun i => .int (i : Nat)) () = some (.nx ()) :=
      (forF_fold (f := fun l x => (some x).bind (L1__law_right p7 (.tuple [tbD L, tbD M]) (tbD (L ++ M)) l)) (fun i : Nat => .int (i : Nat)) (fun u : Unit => u) (fun u _ => u) (fun _ _ => True) (List.range 4) () 0 trivial fun i a s ha _ => ⟨s_num t rfl p7 (by
        have := List.mem_of_getElem? ha
        exact List.mem_range.mp this), trivial⟩).1
    simp only [Option.bind_some] at z3
    simp [-Option.map_bind, -List.map_append, -List.filter_append, g__law_right, b__law_right, B__law_right, e1, e2, e3, hap, e4', e5', e6, e7, e8, x1, x2, x3, y1, y2, y3, z1, z2, z3, revT, iB, f1, f2, tF, f3, f4, tP, iP, kp, kb, k1, k2, g1, g2, g3, g4, iS, ed, r4, lS]
    simp only [consO_s, Option.bind_some] at es
    rw [es, l4, Option.map_some, consO_s, Option.bind_some, s4, bin_s, dEq_ii]
    simp
theorem plain_law (ns : List Int) (hl : ns.length ≤ 63) : g_law [.list (ns.map .int)] = some (.bool true) := by
  obtain ⟨m, m1, m2, hc⟩ := cells_ok ns
  have lc : lcF some (fun p1 : D => some true) (fun p1 : D => (g__law_pot [.list (ns.map .int), p1]).bind fun ps => (some []).bind fun ds => (g__law_right ps ds).map (·.1)) ((List.range m).map fun i => .int (i : Nat)) = some ((List.range m).map fun _ => .bool true) := by
    refine lcF_all (fun i : Nat => .int (i : Nat)) (fun _ => .bool true) (List.range m) fun i hi => ⟨_, rfl, ?_⟩
    obtain ⟨ps, e, hp⟩ := pot_ok ns (p := i) (by have := List.mem_range.mp hi; omega)
    obtain ⟨ps', e2⟩ := right_ok hp
    rw [e, Option.bind_some, Option.bind_some, e2]
    rfl
  unfold g_law
  simp only [b_law]
  unfold B_law
  simp only [consO_s, Option.bind_some, hc, Option.map_some, iterS_l]
  simp only [Option.bind_some] at lc
  rw [lc, lenOk_s (by simp; omega), Option.map_some, consO_s, Option.bind_some, dAll_map]
  simp
end DL

theorem PySem.Challenge.cw_holesheldopen_k66_whole_names_of_two_lot_holds : PySem.Challenge.rw_holesheldopen_k66_whole_names_of_two_lot.Holds :=
  DL.the_end DL.plain_law
