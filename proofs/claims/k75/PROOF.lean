import PyProof.Rows.All
import Wide.All
import OpenK.AllK
import Wide.FinOn
import KE.KStateDown
import HandS.ForMost
import HandS.Defaults
import HandS.Evl
import HandS.Walk
import HandS.TupAny
import HandS.Wide
import HandS.Star
import HandS.Zip
import HandS.RaiseMore
import HandS.Style
import HandS.Deep
import HandS.IsInst
import HandS.Conv
import HandS.Flt
import PyProof.Rows.RuleB_pow
import KE.DataCmp
import KE.DataMinMax
import KE.SortData
import PyProof.ReprRoads
import PyProof.TupleOfSeq
import KE.GoesEnum
import HandS.HeadEnd
import HandS.Codes
import PyProof.ReprBulk
import PyProof.FitsInt
import KE.KDictPairs
import KE.KItemsList
import HandS.MapObj
import HandS.SetFor
import PyProof.Rows.SetFrom
import HandS.Small
import PySem.Challenge.RW_holesheldopen_k75_whole_holes_open_told
import HandS.Head0
import HandS.Head1
import HandS.Head2
import HandS.HeadHook1
import HandS.HeadHook2
namespace DL
/-- tuples of the walk stand with their object (for dict(t)), or by their items alone (for dicts whose keys are tuples) -/
def plainT : Bool := false
end DL

set_option Elab.async false
set_option linter.all false
set_option maxRecDepth 100000
set_option maxHeartbeats 2000000
set_option autoImplicit false
namespace DL
open PySem PySem.Spec PyProof.Rows L2
abbrev D := PyData
abbrev St := L2.St
abbrev Fr_ := PySem.W.Frag

/-! ### data in the abstract heap -/
/-- a list that stands still: locked, or of the written part -/
def Fz (K : Fr_) (H : Hp) (a : Addr) (xs : List V) : Prop := (∃ o, H a = some (.frz o (.lst xs))) ∨ SqL K (fun _ => none) a xs
theorem Fz.sq {K : Fr_} {H : Hp} {a : Addr} {xs : List V} (h : Fz K H a xs) : SqL K H a xs := by
  rcases h with ⟨o, h⟩ | (h | h)
  · exact .inl (.inr ⟨o, h⟩)
  · rcases h with h | ⟨_, h⟩ <;> cases h
  · exact .inr h
/-! ### tuples of the walk -/
/-- how a tuple of items xs stands at its address -/
def isPT (u : HO) (xs : List V) : Prop := if plainT = true then ∃ o : Obj, o.dict = none ∧ u = .frz o (.tup xs) else u = .tup xs
def TupP (K : Fr_) (H : Hp) (a : Addr) (xs : List V) : Prop := (∃ u, isPT u xs ∧ H a = some u) ∨ (plainT = true ∧ ∃ (o : Obj) (its : Array Value) (n : Nat), K.lookup a = some o ∧ o.cls = .type "tuple" ∧ o.dict = none ∧ o.data = .seq its n ∧ its.size ≤ sizeLine ∧ Vals xs its.toList)
theorem isPT_cases {u : HO} {xs : List V} (h : isPT u xs) : (plainT = true ∧ ∃ o : Obj, o.dict = none ∧ u = .frz o (.tup xs)) ∨ (plainT = false ∧ u = .tup xs) := by
  unfold isPT at h
  cases q : plainT with
  | true =>
    rw [if_pos q] at h
    exact .inl ⟨rfl, h⟩
  | false =>
    rw [if_neg (by rw [q]; exact Bool.false_ne_true)] at h
    exact .inr ⟨rfl, h⟩
theorem isPT_any {o : Obj} (xs : List V) (h : o.dict = none) : ∃ u, isPT u xs ∧ (u = .frz o (.tup xs) ∨ u = .tup xs) := by
  unfold isPT
  cases q : plainT with
  | true => exact ⟨.frz o (.tup xs), ⟨o, h, rfl⟩, .inl rfl⟩
  | false => exact ⟨.tup xs, rfl, .inr rfl⟩
theorem isPT_ok {P : Program} {w : World} {H : Hp} {h : Heap} {a : Addr} {xs : List V} {o : Obj} {u : HO} (e : u = .frz o (.tup xs) ∨ u = .tup xs) (ho : h.get? a = some o) (k : ObjOk P w H h a (.tup xs)) : ObjOk P w H h a u := by
  rcases e with rfl | rfl
  · exact ⟨ho, k⟩
  · exact k
theorem isPT_sq {K : Fr_} {H : Hp} {a : Addr} {u : HO} {xs : List V} (h : isPT u xs) (e : H a = some u) : SqT K H a xs := by
  rcases (isPT_cases h) with ⟨_, o, _, rfl⟩ | ⟨_, rfl⟩
  · exact .inl (.inr ⟨o, e⟩)
  · exact .inl (.inl e)
theorem TupP.sq {K : Fr_} {H : Hp} {a : Addr} {xs : List V} (h : TupP K H a xs) : SqT K H a xs := by
  rcases h with ⟨u, h1, h2⟩ | ⟨_, o, its, n, h1, h2, _, h4, h5, h6⟩
  · exact isPT_sq h1 h2
  · exact .inr ⟨o, its, n, h1, h2, h4, h5, h6⟩
theorem TupP.of {K : Fr_} {H : Hp} {a : Addr} {xs : List V} {u : HO} (h : isPT u xs) (e : H a = some u) : TupP K H a xs := .inl ⟨u, h, e⟩
/-- a dict's key as data -/
def keyD : Key → D
  | .inl i => .int i
  | .inr x => .str x
/-- a tuple of keys as data -/
def keyDs (k : List Key) : D := .tuple (k.map keyD)
mutual
inductive Rp (K : Fr_) (H : Hp) : V → D → Prop
  | non : Rp K H .non .none
  | bl (b : Bool) : Rp K H (.bl b) (.bool b)
  | int (i : Int) : Rp K H (.int i) (.int i)
  | str (x : Str) : Rp K H (.str x) (.str x)
  | lst {a : Addr} {xs : List V} {ds : List D} : Fz K H a xs → RpA K H xs ds → Rp K H (.ref a) (.list ds)
  | tup {a : Addr} {xs : List V} {ds : List D} : TupP K H a xs → RpA K H xs ds → Rp K H (.ref a) (.tuple ds)
  | dct {a : Addr} {ws : List (Key × V)} {kvs : List (D × D)} : (∃ o, H a = some (.frz o (.dK ws))) → ws.map (fun p => keyD p.1) = kvs.map (·.1) → RpA K H (ws.map (·.2)) (kvs.map (·.2)) → Rp K H (.ref a) (.dict kvs)
inductive RpA (K : Fr_) (H : Hp) : List V → List D → Prop
  | nil : RpA K H [] []
  | cons {v : V} {vs : List V} {d : D} {ds : List D} : Rp K H v d → RpA K H vs ds → RpA K H (v :: vs) (d :: ds)
end
/-- what stands still stays -/
structure Mono (H H' : Hp) : Prop where
  tup : ∀ b xs, H b = some (.tup xs) → H' b = some (.tup xs)
  frz : ∀ b o u, H b = some (.frz o u) → H' b = some (.frz o u)
theorem Mono.refl (H : Hp) : Mono H H := ⟨fun _ _ h => h, fun _ _ _ h => h⟩
theorem Mono.trans {H H1 H2 : Hp} (a : Mono H H1) (b : Mono H1 H2) : Mono H H2 := ⟨fun c xs h => b.tup c xs (a.tup c xs h), fun c o u h => b.frz c o u (a.frz c o u h)⟩
theorem Mono.of_same {H H' : Hp} (s : Same H H') : Mono H H' := ⟨fun b xs h => s b _ h, fun b o u h => s b _ h⟩
theorem Mono.sqT {K : Fr_} {H H' : Hp} (m : Mono H H') {a : Addr} {xs : List V} (h : SqT K H a xs) : SqT K H' a xs := by
  rcases h with (h | ⟨o, h⟩) | h
  · exact .inl (.inl (m.tup _ _ h))
  · exact .inl (.inr ⟨o, m.frz _ _ _ h⟩)
  · exact .inr h
theorem Mono.pt {K : Fr_} {H H' : Hp} (m : Mono H H') {a : Addr} {xs : List V} (h : TupP K H a xs) : TupP K H' a xs := by
  rcases h with ⟨u, h1, h2⟩ | h
  · refine .inl ⟨u, h1, ?_⟩
    rcases (isPT_cases h1) with ⟨_, o, _, rfl⟩ | ⟨_, rfl⟩
    · exact m.frz _ _ _ h2
    · exact m.tup _ _ h2
  · exact .inr h
theorem Mono.fz {K : Fr_} {H H' : Hp} (m : Mono H H') {a : Addr} {xs : List V} (h : Fz K H a xs) : Fz K H' a xs := by
  rcases h with ⟨o, h⟩ | h
  · exact .inl ⟨o, m.frz _ _ _ h⟩
  · exact .inr h
mutual
theorem Rp.mono {K : Fr_} {H H' : Hp} (m : Mono H H') : ∀ {v : V} {d : D}, Rp K H v d → Rp K H' v d
  | _, _, .non => .non
  | _, _, .bl b => .bl b
  | _, _, .int i => .int i
  | _, _, .str x => .str x
  | _, _, .lst h r => .lst (m.fz h) (RpA.mono m r)
  | _, _, .tup h r => .tup (m.pt h) (RpA.mono m r)
  | _, _, .dct ⟨o, h⟩ e r => .dct ⟨o, m.frz _ _ _ h⟩ e (RpA.mono m r)
theorem RpA.mono {K : Fr_} {H H' : Hp} (m : Mono H H') : ∀ {vs : List V} {ds : List D}, RpA K H vs ds → RpA K H' vs ds
  | _, _, .nil => .nil
  | _, _, .cons h r => .cons (Rp.mono m h) (RpA.mono m r)
end
mutual
theorem Rp.dp {K : Fr_} {H : Hp} : ∀ {v : V} {d : D}, Rp K H v d → d.hasDict = false → Dp K H v d
  | _, _, .non, _ => .non
  | _, _, .bl b, _ => .bl b
  | _, _, .int i, _ => .int i
  | _, _, .str x, _ => .str x
  | _, _, .lst h r, n => .lst h.sq (RpA.dp r (by simpa [PyData.hasDict] using n))
  | _, _, .tup h r, n => .tup h.sq (RpA.dp r (by simpa [PyData.hasDict] using n))
  | _, _, .dct _ _ _, n => by simp [PyData.hasDict] at n
theorem RpA.dp {K : Fr_} {H : Hp} : ∀ {vs : List V} {ds : List D}, RpA K H vs ds → PyData.hasDictAll ds = false → DpAll K H vs ds
  | _, _, .nil, _ => .nil
  | _, _, .cons h r, n => .cons (Rp.dp h (by simp [PyData.hasDictAll] at n; exact n.1)) (RpA.dp r (by simp [PyData.hasDictAll] at n; exact n.2))
end
theorem noDictAll : ∀ {ds : List D}, (∀ d ∈ ds, d.hasDict = false) → PyData.hasDictAll ds = false
  | [], _ => by rw [PyData.hasDictAll]
  | d :: r, h => by rw [PyData.hasDictAll, h d List.mem_cons_self, noDictAll fun x hx => h x (List.mem_cons_of_mem _ hx)]; rfl
theorem RpA.length {K : Fr_} {H : Hp} : ∀ {vs : List V} {ds : List D}, RpA K H vs ds → vs.length = ds.length
  | _, _, .nil => rfl
  | _, _, .cons _ r => congrArg (· + 1) (RpA.length r)
theorem RpA.get {K : Fr_} {H : Hp} : ∀ {vs : List V} {ds : List D} {i : Nat} {d : D}, RpA K H vs ds → ds[i]? = some d → ∃ v, vs[i]? = some v ∧ Rp K H v d
  | _, _, _, _, .nil, e => by simp at e
  | _, _, 0, _, .cons h _, e => by
    simp at e
    subst e
    exact ⟨_, rfl, h⟩
  | _, _, i + 1, _, .cons _ r, e => by
    obtain ⟨v, h1, h2⟩ := RpA.get (i := i) r (by simpa using e)
    exact ⟨v, by simpa using h1, h2⟩
theorem RpA.get' {K : Fr_} {H : Hp} : ∀ {vs : List V} {ds : List D} {i : Nat} {v : V}, RpA K H vs ds → vs[i]? = some v → ∃ d, ds[i]? = some d ∧ Rp K H v d
  | _, _, _, _, .nil, e => by simp at e
  | _, _, 0, _, .cons h _, e => by
    simp at e
    subst e
    exact ⟨_, rfl, h⟩
  | _, _, i + 1, _, .cons _ r, e => by
    obtain ⟨v, h1, h2⟩ := RpA.get' (i := i) r (by simpa using e)
    exact ⟨v, by simpa using h1, h2⟩
theorem RpA.append {K : Fr_} {H : Hp} : ∀ {vs us : List V} {ds es : List D}, RpA K H vs ds → RpA K H us es → RpA K H (vs ++ us) (ds ++ es)
  | _, _, _, _, .nil, s => s
  | _, _, _, _, .cons h r, s => .cons h (RpA.append r s)
theorem RpA.take {K : Fr_} {H : Hp} : ∀ {vs : List V} {ds : List D} (n : Nat), RpA K H vs ds → RpA K H (vs.take n) (ds.take n)
  | _, _, 0, _ => .nil
  | _, _, _ + 1, .nil => .nil
  | _, _, n + 1, .cons h r => .cons h (RpA.take n r)
theorem RpA.drop {K : Fr_} {H : Hp} : ∀ {vs : List V} {ds : List D} (n : Nat), RpA K H vs ds → RpA K H (vs.drop n) (ds.drop n)
  | _, _, 0, r => r
  | _, _, _ + 1, .nil => .nil
  | _, _, n + 1, .cons h r => RpA.drop n r
theorem RpA.set {K : Fr_} {H : Hp} {v : V} {d : D} (h : Rp K H v d) : ∀ {vs : List V} {ds : List D} (i : Nat), RpA K H vs ds → RpA K H (vs.set i v) (ds.set i d)
  | _, _, _, .nil => .nil
  | _, _, 0, .cons _ r => .cons h r
  | _, _, i + 1, .cons q r => .cons q (RpA.set h i r)
theorem RpA.snoc {K : Fr_} {H : Hp} {vs : List V} {ds : List D} {v : V} {d : D} (r : RpA K H vs ds) (h : Rp K H v d) : RpA K H (vs ++ [v]) (ds ++ [d]) := r.append (.cons h .nil)

/-! ### the slots of a frame -/
/-- what is known of a slot: nothing; a value that stands still; a list, a dict that the slot alone holds -/
inductive Cell where
  | any
  | imm (d : D)
  | own (ds : List D)
  | dct (kvs : List (D × D))
  | dtt (kvs : List (D × D))
def Cell.isOwn : Cell → Bool
  | .own _ => true
  | .dct _ => true
  | .dtt _ => true
  | _ => false
abbrev Env_ := List Cell
/-- the def's context: the heap at its entry, the lists handed in that it may change, by slot -/
structure FC where
  H0 : Hp
  M : List (Nat × Addr)
/-- what a dict holds -/
def RpK (K : Fr_) (H : Hp) (ws : List (Key × V)) (kvs : List (D × D)) : Prop := ws.map (fun p => keyD p.1) = kvs.map (·.1) ∧ RpA K H (ws.map (·.2)) (kvs.map (·.2))
theorem RpK.mono {K : Fr_} {H H' : Hp} (m : Mono H H') {ws : List (Key × V)} {kvs : List (D × D)} (r : RpK K H ws kvs) : RpK K H' ws kvs := ⟨r.1, r.2.mono m⟩
/-- the same with keys that are tuples of ints and texts -/
def RpT (K : Fr_) (H : Hp) (ws : List (List Key × V)) (kvs : List (D × D)) : Prop := ws.map (fun p => keyDs p.1) = kvs.map (·.1) ∧ RpA K H (ws.map (·.2)) (kvs.map (·.2))
theorem RpT.mono {K : Fr_} {H H' : Hp} (m : Mono H H') {ws : List (List Key × V)} {kvs : List (D × D)} (r : RpT K H ws kvs) : RpT K H' ws kvs := ⟨r.1, r.2.mono m⟩
/-- what a slot alone may hold -/
def isMine : HO → Prop
  | .lst _ => True
  | .dK _ => True
  | .dT _ => True
  | _ => False
def CellOk (K : Fr_) (H : Hp) (o : Option (Option V)) : Cell → Prop
  | .any => True
  | .imm d => ∃ v, o = some (some v) ∧ Rp K H v d
  | .own ds => ∃ a xs, o = some (some (.ref a)) ∧ H a = some (.lst xs) ∧ RpA K H xs ds
  | .dct kvs => ∃ a ws, o = some (some (.ref a)) ∧ H a = some (.dK ws) ∧ RpK K H ws kvs
  | .dtt kvs => ∃ a ws, o = some (some (.ref a)) ∧ H a = some (.dT ws) ∧ RpT K H ws kvs
def Owns (Γ : Env_) (σ : St) (a : Addr) : Prop := ∃ (i : Nat) (c : Cell), Γ[i]? = some c ∧ c.isOwn = true ∧ σ[i]? = some (some (.ref a))
structure EnvOk (K : Fr_) (c : FC) (σ : St) (H : Hp) (Γ : Env_) : Prop where
  cells : ∀ (i : Nat) (k : Cell), Γ[i]? = some k → CellOk K H (σ[i]?) k
  apart : ∀ (i j : Nat) (k l : Cell) (a : Addr), i ≠ j → Γ[i]? = some k → k.isOwn = true → Γ[j]? = some l → l.isOwn = true → σ[i]? = some (some (.ref a)) → σ[j]? = some (some (.ref a)) → False
  pres : ∀ b o, c.H0 b = some o → (∀ p ∈ c.M, p.2 ≠ b) → H b = some o
  new : ∀ a, Owns Γ σ a → (∃ p ∈ c.M, p.2 = a) ∨ c.H0 a = none
  pins : ∀ p ∈ c.M, σ[p.1]? = some (some (.ref p.2)) ∧ ∃ k : Cell, Γ[p.1]? = some k ∧ k.isOwn = true
  len : σ.length = Γ.length
/-- the cell stays where what stands still stays, and what the slot alone holds -/
theorem CellOk.keep {K : Fr_} {H H' : Hp} {o : Option (Option V)} (m : Mono H H') : ∀ {k : Cell}, (k.isOwn = true → ∀ a u, o = some (some (.ref a)) → H a = some u → H' a = some u) → CellOk K H o k → CellOk K H' o k
  | .any, _, _ => trivial
  | .imm d, _, ⟨v, e, r⟩ => ⟨v, e, r.mono m⟩
  | .own ds, s, ⟨a, xs, e, h, r⟩ => ⟨a, xs, e, s rfl a _ e h, r.mono m⟩
  | .dct kvs, s, ⟨a, ws, e, h, r⟩ => ⟨a, ws, e, s rfl a _ e h, r.mono m⟩
  | .dtt kvs, s, ⟨a, ws, e, h, r⟩ => ⟨a, ws, e, s rfl a _ e h, r.mono m⟩
theorem CellOk.same {K : Fr_} {H H' : Hp} {o : Option (Option V)} (s : Same H H') {k : Cell} (h : CellOk K H o k) : CellOk K H' o k := h.keep (.of_same s) fun _ a u _ e => s a u e
theorem CellOk.mine {K : Fr_} {H : Hp} {o : Option (Option V)} : ∀ {k : Cell}, CellOk K H o k → k.isOwn = true → ∃ a u, o = some (some (.ref a)) ∧ H a = some u ∧ isMine u
  | .own _, ⟨a, xs, e, h, _⟩, _ => ⟨a, _, e, h, trivial⟩
  | .dct _, ⟨a, xs, e, h, _⟩, _ => ⟨a, _, e, h, trivial⟩
  | .dtt _, ⟨a, xs, e, h, _⟩, _ => ⟨a, _, e, h, trivial⟩
theorem EnvOk.same {K : Fr_} {c : FC} {σ : St} {H H' : Hp} {Γ : Env_} (E : EnvOk K c σ H Γ) (s : Same H H') : EnvOk K c σ H' Γ :=
  ⟨fun i k h => (E.cells i k h).same s, E.apart, fun b o h hm => s _ _ (E.pres b o h hm), E.new, E.pins, E.len⟩
/-- what no slot holds stays -/
def Kept (Γ : Env_) (σ : St) (H H' : Hp) : Prop := ∀ b o, H b = some o → ¬ Owns Γ σ b → H' b = some o
theorem Kept.of_same {Γ : Env_} {σ : St} {H H' : Hp} (s : Same H H') : Kept Γ σ H H' := fun b o h _ => s b o h
theorem EnvOk.owned {K : Fr_} {c : FC} {σ : St} {H : Hp} {Γ : Env_} (E : EnvOk K c σ H Γ) {a : Addr} (h : Owns Γ σ a) : ∃ u, H a = some u ∧ isMine u := by
  obtain ⟨i, k, h1, h2, h3⟩ := h
  obtain ⟨b, u, e, hb, hu⟩ := (E.cells i k h1).mine h2
  rw [h3] at e
  cases e
  exact ⟨u, hb, hu⟩
theorem Kept.mono {K : Fr_} {c : FC} {σ : St} {H H' : Hp} {Γ : Env_} (E : EnvOk K c σ H Γ) (k : Kept Γ σ H H') : Mono H H' := by
  refine ⟨fun b xs h => k b _ h fun o => ?_, fun b o u h => k b _ h fun q => ?_⟩
  · obtain ⟨u, e, hu⟩ := E.owned o
    rw [h] at e
    cases e
    exact hu
  · obtain ⟨u, e, hu⟩ := E.owned q
    rw [h] at e
    cases e
    exact hu
theorem isMine.ne_tup {u : HO} (h : isMine u) {xs : List V} : (HO.tup xs) ≠ u := fun e => by
  subst e
  exact h
theorem isMine.ne_frz {u w : HO} {o : Obj} (h : isMine u) : (HO.frz o w) ≠ u := fun e => by
  subst e
  exact h
theorem Same.new {H : Hp} {p : Addr} {o : HO} (h : H p = none) : Same H (upd H p o) := fun b u e => by
  rw [upd_ne (ne_of_none e h)]
  exact e
/-- a value goes into a slot -/
theorem EnvOk.setImm {K : Fr_} {c : FC} {σ : St} {H : Hp} {Γ : Env_} (E : EnvOk K c σ H Γ) {i : Nat} {v : V} {d : D} (r : Rp K H v d) (hm : ∀ p ∈ c.M, p.1 ≠ i) : EnvOk K c (σ.set i (some v)) H (Γ.set i (.imm d)) := by
  have own_of : ∀ {j : Nat} {k : Cell}, (Γ.set i (.imm d))[j]? = some k → k.isOwn = true → j ≠ i ∧ Γ[j]? = some k := fun {j k} h ho => by
    by_cases e : i = j
    · subst e
      rw [List.getElem?_set] at h
      simp at h
      obtain ⟨_, h⟩ := h
      subst h
      cases ho
    · rw [List.getElem?_set_ne e] at h
      exact ⟨fun q => e q.symm, h⟩
  refine ⟨fun j k h => ?_, fun j l k q a hjl h1 h2 h3 h4 h5 h6 => ?_, E.pres, fun a ⟨j, k, h1, h2, h3⟩ => ?_, fun p hp => ?_, by rw [List.length_set, List.length_set, E.len]⟩
  · by_cases e : i = j
    · subst e
      rw [List.getElem?_set] at h
      simp at h
      obtain ⟨hl, h⟩ := h
      subst h
      refine ⟨v, ?_, r⟩
      rw [List.getElem?_set_self (by rw [E.len]; exact hl)]
    · rw [List.getElem?_set_ne e] at h ⊢
      exact E.cells j k h
  · obtain ⟨n1, g1⟩ := own_of h1 h2
    obtain ⟨n2, g2⟩ := own_of h3 h4
    rw [List.getElem?_set_ne (Ne.symm n1)] at h5
    rw [List.getElem?_set_ne (Ne.symm n2)] at h6
    exact E.apart j l k q a hjl g1 h2 g2 h4 h5 h6
  · obtain ⟨n1, g1⟩ := own_of h1 h2
    rw [List.getElem?_set_ne (Ne.symm n1)] at h3
    exact E.new a ⟨j, k, g1, h2, h3⟩
  · obtain ⟨h1, k, h2, h3⟩ := E.pins p hp
    have n := hm p hp
    rw [List.getElem?_set_ne (Ne.symm n), List.getElem?_set_ne (Ne.symm n)]
    exact ⟨h1, k, h2, h3⟩
/-- a new list, dict goes into a slot: H, the heap ahead, does not know it -/
theorem EnvOk.setMine {K : Fr_} {c : FC} {σ : St} {H : Hp} {Γ : Env_} (E : EnvOk K c σ H Γ) {i : Nat} {a : Addr} {w : Cell} (hok : CellOk K H (some (some (.ref a))) w) (hn : ¬ Owns Γ σ a) (h0 : c.H0 a = none) (hm : ∀ p ∈ c.M, p.1 ≠ i) :
    EnvOk K c (σ.set i (some (.ref a))) H (Γ.set i w) := by
  have own_of : ∀ {j : Nat} {k : Cell}, (Γ.set i w)[j]? = some k → k.isOwn = true → j ≠ i → Γ[j]? = some k := fun {j k} h ho e => by
    rw [List.getElem?_set_ne (Ne.symm e)] at h
    exact h
  have at_i : ∀ {j : Nat} {b : Addr}, j = i → (σ.set i (some (.ref a)))[j]? = some (some (.ref b)) → b = a := fun {j b} e h => by
    subst e
    rw [List.getElem?_set] at h
    simp at h
    exact h.2.symm
  have off_i : ∀ {j : Nat} {b : Addr}, j ≠ i → (σ.set i (some (.ref a)))[j]? = some (some (.ref b)) → σ[j]? = some (some (.ref b)) := fun {j b} e h => by
    rw [List.getElem?_set_ne (Ne.symm e)] at h
    exact h
  refine ⟨fun j k h => ?_, fun j l k q b hjl h1 h2 h3 h4 h5 h6 => ?_, E.pres, fun b ⟨j, k, h1, h2, h3⟩ => ?_, fun p hp => ?_, by rw [List.length_set, List.length_set, E.len]⟩
  · by_cases e : i = j
    · subst e
      rw [List.getElem?_set] at h
      simp at h
      obtain ⟨hl, h⟩ := h
      subst h
      rw [List.getElem?_set_self (by rw [E.len]; exact hl)]
      exact hok
    · rw [List.getElem?_set_ne e] at h ⊢
      exact E.cells j k h
  · by_cases ej : j = i
    · have e1 := at_i ej h5
      have el : l ≠ i := fun z => hjl (ej.trans z.symm)
      rw [e1] at h6
      exact hn ⟨l, q, own_of h3 h4 el, h4, off_i el h6⟩
    · by_cases el : l = i
      · have e1 := at_i el h6
        rw [e1] at h5
        exact hn ⟨j, k, own_of h1 h2 ej, h2, off_i ej h5⟩
      · exact E.apart j l k q b hjl (own_of h1 h2 ej) h2 (own_of h3 h4 el) h4 (off_i ej h5) (off_i el h6)
  · by_cases ej : j = i
    · rw [at_i ej h3]
      exact .inr h0
    · exact E.new b ⟨j, k, own_of h1 h2 ej, h2, off_i ej h3⟩
  · obtain ⟨h1, k, h2, h3⟩ := E.pins p hp
    have n := hm p hp
    rw [List.getElem?_set_ne (Ne.symm n), List.getElem?_set_ne (Ne.symm n)]
    exact ⟨h1, k, h2, h3⟩
theorem EnvOk.setOwn {K : Fr_} {c : FC} {σ : St} {H : Hp} {Γ : Env_} (E : EnvOk K c σ H Γ) {i : Nat} {a : Addr} {xs : List V} {ds : List D} (ha : H a = some (.lst xs)) (r : RpA K H xs ds) (hn : ¬ Owns Γ σ a) (h0 : c.H0 a = none) (hm : ∀ p ∈ c.M, p.1 ≠ i) :
    EnvOk K c (σ.set i (some (.ref a))) H (Γ.set i (.own ds)) := E.setMine (w := .own ds) ⟨a, xs, rfl, ha, r⟩ hn h0 hm
theorem EnvOk.ownAt {K : Fr_} {c : FC} {σ : St} {H : Hp} {Γ : Env_} (E : EnvOk K c σ H Γ) {i : Nat} {ds : List D} (h : Γ[i]? = some (.own ds)) : ∃ a xs, σ[i]? = some (some (.ref a)) ∧ H a = some (.lst xs) ∧ RpA K H xs ds := E.cells i _ h
/-- what slot i alone holds is changed (other heap cells of the entry stay) -/
theorem EnvOk.writeC {K : Fr_} {c : FC} {σ : St} {H H' : Hp} {Γ : Env_} (E : EnvOk K c σ H Γ) {i : Nat} {w w' : Cell} {a : Addr} (h : Γ[i]? = some w) (hw : w.isOwn = true) (ha : σ[i]? = some (some (.ref a)))
    (k : ∀ b o, H b = some o → b ≠ a → H' b = some o) (hw' : w'.isOwn = true) (hok : CellOk K H' (some (some (.ref a))) w') : EnvOk K c σ H' (Γ.set i w') := by
  obtain ⟨u0, hl, hmine⟩ := E.owned ⟨i, w, h, hw, ha⟩
  have hil : i < Γ.length := (List.getElem?_eq_some_iff.mp h).1
  have back : ∀ {j : Nat} {q : Cell}, (Γ.set i w')[j]? = some q → q.isOwn = true → ∃ q' : Cell, Γ[j]? = some q' ∧ q'.isOwn = true := fun {j q} h1 h2 => by
    by_cases e : i = j
    · subst e
      exact ⟨_, h, hw⟩
    · rw [List.getElem?_set_ne e] at h1
      exact ⟨q, h1, h2⟩
  have mono : Mono H H' := ⟨fun b zs hb => k b _ hb fun z => (by rw [z, hl] at hb; exact hmine.ne_tup (Option.some.inj hb).symm), fun b o u hb => k b _ hb fun z => (by rw [z, hl] at hb; exact hmine.ne_frz (Option.some.inj hb).symm)⟩
  refine ⟨fun j q hq => ?_, fun j l q q' b hjl h1 h2 h3 h4 h5 h6 => ?_, fun b o hb hm => k b o (E.pres b o hb hm) fun z => ?_, fun b ⟨j, q, h1, h2, h3⟩ => ?_, fun p hp => ?_, by rw [List.length_set, E.len]⟩
  · by_cases e : i = j
    · subst e
      rw [List.getElem?_set_self hil] at hq
      cases hq
      rw [ha]
      exact hok
    · rw [List.getElem?_set_ne e] at hq
      refine (E.cells j q hq).keep mono fun ho b u e1 hb => k b u hb fun z => ?_
      subst z
      exact E.apart i j _ _ b e h hw hq ho ha e1
  · obtain ⟨q1, g1, g2⟩ := back h1 h2
    obtain ⟨q2, g3, g4⟩ := back h3 h4
    exact E.apart j l q1 q2 b hjl g1 g2 g3 g4 h5 h6
  · rcases E.new a ⟨i, _, h, hw, ha⟩ with ⟨p, hp, e⟩ | e
    · exact hm p hp (e.trans z.symm)
    · rw [z, e] at hb
      cases hb
  · obtain ⟨q1, g1, g2⟩ := back h1 h2
    exact E.new b ⟨j, q1, g1, g2, h3⟩
  · obtain ⟨h1, q, h2, h3⟩ := E.pins p hp
    refine ⟨h1, ?_⟩
    by_cases e : i = p.1
    · subst e
      exact ⟨_, List.getElem?_set_self hil, hw'⟩
    · rw [List.getElem?_set_ne e]
      exact ⟨q, h2, h3⟩
theorem EnvOk.write {K : Fr_} {c : FC} {σ : St} {H H' : Hp} {Γ : Env_} (E : EnvOk K c σ H Γ) {i : Nat} {ds es : List D} {a : Addr} {ys : List V} (h : Γ[i]? = some (.own ds)) (ha : σ[i]? = some (some (.ref a)))
    (k : ∀ b o, H b = some o → b ≠ a → H' b = some o) (ha' : H' a = some (.lst ys)) (r : RpA K H' ys es) : EnvOk K c σ H' (Γ.set i (.own es)) := E.writeC h rfl ha k rfl ⟨a, ys, rfl, ha', r⟩
theorem EnvOk.dctAt {K : Fr_} {c : FC} {σ : St} {H : Hp} {Γ : Env_} (E : EnvOk K c σ H Γ) {i : Nat} {kvs : List (D × D)} (h : Γ[i]? = some (.dct kvs)) : ∃ a ws, σ[i]? = some (some (.ref a)) ∧ H a = some (.dK ws) ∧ RpK K H ws kvs := E.cells i _ h
theorem EnvOk.dttAt {K : Fr_} {c : FC} {σ : St} {H : Hp} {Γ : Env_} (E : EnvOk K c σ H Γ) {i : Nat} {kvs : List (D × D)} (h : Γ[i]? = some (.dtt kvs)) : ∃ a ws, σ[i]? = some (some (.ref a)) ∧ H a = some (.dT ws) ∧ RpT K H ws kvs := E.cells i _ h
/-- less is known -/
def EnvLe : Env_ → Env_ → Prop
  | [], [] => True
  | c :: r, c' :: r' => (c' = c ∨ c' = .any) ∧ EnvLe r r'
  | _, _ => False
theorem EnvLe.at_ : ∀ {Γ Γ' : Env_}, EnvLe Γ Γ' → Γ.length = Γ'.length ∧ ∀ (i : Nat) (k : Cell), Γ'[i]? = some k → k = .any ∨ Γ[i]? = some k
  | [], [], _ => ⟨rfl, fun i k h => by simp at h⟩
  | c :: r, c' :: r', ⟨h1, h2⟩ => by
    obtain ⟨l, z⟩ := EnvLe.at_ h2
    refine ⟨by simp [l], fun i k h => ?_⟩
    cases i with
    | zero =>
      simp at h
      subst h
      rcases h1 with h1 | h1
      · exact .inr (by simp [h1])
      · exact .inl h1
    | succ i => simpa using z i k (by simpa using h)
  | [], _ :: _, h => h.elim
  | _ :: _, [], h => h.elim
theorem EnvOk.le {K : Fr_} {c : FC} {σ : St} {H : Hp} {Γ Γ' : Env_} (E : EnvOk K c σ H Γ) (l : EnvLe Γ Γ') (hm : ∀ p ∈ c.M, ∃ k : Cell, Γ'[p.1]? = some k ∧ k.isOwn = true) : EnvOk K c σ H Γ' := by
  obtain ⟨ll, z⟩ := l.at_
  have own_of : ∀ {j : Nat} {k : Cell}, Γ'[j]? = some k → k.isOwn = true → Γ[j]? = some k := fun {j k} h ho => by
    rcases z j k h with e | e
    · subst e
      cases ho
    · exact e
  refine ⟨fun i k h => ?_, fun i j k q a hij h1 h2 h3 h4 h5 h6 => E.apart i j k q a hij (own_of h1 h2) h2 (own_of h3 h4) h4 h5 h6, E.pres, fun a ⟨j, k, h1, h2, h3⟩ => E.new a ⟨j, k, own_of h1 h2, h2, h3⟩, fun p hp => ⟨(E.pins p hp).1, hm p hp⟩, by rw [E.len, ll]⟩
  rcases z i k h with e | e
  · subst e
    trivial
  · exact E.cells i k e
/-! ### the rules that make tuples -/
section
variable {X : Cx} {es : List Expr} {t : TA} {pos : Pos}
def tTup' (t : TA) : TE := fun σ H Q => t σ H fun xs H1 => xs.length ≤ sizeLine ∧ ∀ p u, H1 p = none → isPT u xs → Q (.ref p) (upd H1 p u)
theorem pe_tup' {x1} (h : PA X es t) : PE X (.Tuple es x1 pos) (tTup' t) := by
  refine ⟨fun pins s σ H Q I hq => ?_⟩
  refine wpAny_Tuple_spliced (thn (h.run pos pins s σ H _ I hq) fun us s1 ⟨xs, H1, I1, r, z, q⟩ => ⟨by rw [← r.length]; exact z, ?_⟩)
  have hf : H1 s1.heap.objs.size = none := I1.hok.fresh (Nat.le_refl _)
  obtain ⟨u, hu, hu2⟩ := isPT_any (o := { cls := .type "tuple", data := .seq us.toArray }) xs rfl
  refine ⟨.ref s1.heap.objs.size, upd H1 s1.heap.objs.size u, I1.laid (t' := s1.toks) (fun b u e => Heap.get?_push_of_some _ e) (Nat.le_refl _) (isPT_ok hu2 ?_ ?_), rfl, q _ _ hf hu⟩
  · exact Heap.get?_push_size _ rfl
  exact ⟨z, us, r, ⟨_, Heap.get?_push_size _ rfl, rfl, _, rfl⟩⟩
def rSlA' (K : PySem.W.Frag) : V → Option Int → Option Int → Hp → VK → Prop := fun x lo hi H Q => ∃ a xs, x = .ref a ∧ SqT K H a xs ∧
  (HT.sIx xs.length 0 lo = 0 ∧ HT.sIx xs.length xs.length hi = xs.length → Q (.ref a) H) ∧ (¬ (HT.sIx xs.length 0 lo = 0 ∧ HT.sIx xs.length xs.length hi = xs.length) → ∀ p u, H p = none → isPT u (cutV xs lo hi) → Q (.ref p) (upd H p u))
theorem sl_tupA' : SlR X (rSlA' X.K) := by
  intro pins s σ H x v vl vu lo hi sl Q I rx hs pl pu h
  obtain ⟨a, xs, rfl, hx, q1, q2⟩ := h
  cases rx
  obtain ⟨its, r, ht, hz⟩ := I.tuple hx
  have hlen : its.toArray.size = xs.length := by rw [List.size_toArray]; exact r.length.symm
  refine ⟨"tuple", _, PyProof.Rows.slot_tuple_getitem.lookup, ht.typeIs, ?_⟩
  by_cases hw : HT.sIx xs.length 0 lo = 0 ∧ HT.sIx xs.length xs.length hi = xs.length
  · exact getItem_tuple_whole ht hs pl pu (by rw [hlen]; exact hw) ⟨.ref a, H, I, rfl, q1 hw⟩
  · refine HT.getItem_tuple_cut ht hs pl pu (by rw [hlen]; exact hw) ?_ (by rw [hlen]; exact hz)
    rw [hlen]
    obtain ⟨u, hu, hu2⟩ := isPT_any (o := { cls := .type "tuple", data := .seq ((its.drop (HT.sIx xs.length 0 lo)).take (HT.sIx xs.length xs.length hi - HT.sIx xs.length 0 lo)).toArray }) (cutV xs lo hi) rfl
    refine ⟨.ref s.heap.objs.size, _, I.laid (t' := s.toks) (o := u) (fun b ob q => Heap.get?_push_of_some _ q) (Nat.le_refl _) (isPT_ok hu2 ?_ ?_), rfl, q2 hw _ _ (I.hok.fresh (Nat.le_refl _)) hu⟩
    · exact Heap.get?_push_size _ rfl
    exact ⟨Nat.le_trans (cutV_length xs lo hi) hz, _, (r.drop (HT.sIx xs.length 0 lo)).take (HT.sIx xs.length xs.length hi - HT.sIx xs.length 0 lo), IsTup.new _ _⟩
def rCatA' (K : PySem.W.Frag) : R2 := fun x y H Q => ∃ a b xs ys, x = .ref a ∧ y = .ref b ∧ SqT K H a xs ∧ SqT K H b ys ∧ xs.length + ys.length ≤ sizeLine ∧
  (xs = [] → Q (.ref b) H) ∧ (xs ≠ [] → ys = [] → Q (.ref a) H) ∧ (xs ≠ [] → ys ≠ [] → ∀ p u, H p = none → isPT u (xs ++ ys) → Q (.ref p) (upd H p u))
theorem op_catA' : OpR X (binaryOp .Add) (rCatA' X.K) := by
  intro pins s σ H x y v u Q I rx ry h
  obtain ⟨a, b, xs, ys, rfl, rfl, ha, hb, hz, q0, q1, q2⟩ := h
  cases rx
  cases ry
  obtain ⟨its, r1, p1, _⟩ := I.tuple ha
  obtain ⟨its2, r2, p2, _⟩ := I.tuple hb
  by_cases hx : xs = []
  · subst hx
    cases r1
    exact cat_tup0 p1 p2 ⟨.ref b, H, I, rfl, q0 rfl⟩
  · refine HT.cat_tup p1 p2 (fun z => hx (r1.nil_iff.mp z)) (fun z => ⟨.ref a, H, I, rfl, q1 hx (r2.nil_iff.mp z)⟩) (fun z => ?_) (by rw [← r1.length, ← r2.length]; exact hz)
    obtain ⟨u, hu, hu2⟩ := isPT_any (o := { cls := .type "tuple", data := .seq (its ++ its2).toArray }) (xs ++ ys) rfl
    refine ⟨.ref s.heap.objs.size, _, I.laid (t' := s.toks) (o := u) (fun b ob q => Heap.get?_push_of_some _ q) (Nat.le_refl _) (isPT_ok hu2 ?_ ?_), rfl, q2 hx (fun w => z (r2.nil_iff.mpr w)) _ _ (I.hok.fresh (Nat.le_refl _)) hu⟩
    · exact Heap.get?_push_size _ rfl
    exact ⟨by rw [List.length_append]; exact hz, _, r1.append r2, IsTup.new _ _⟩
theorem call_tuple_of' : CallR X (.type "tuple") (fun xs H Q => ∃ p ys, xs = [.ref p] ∧ ((SqL X.K H p ys ∧ ∀ l u, H l = none → isPT u ys → Q (.ref l) (upd H l u)) ∨ (SqT X.K H p ys ∧ Q (.ref p) H))) := by
  intro pins s σ H xs us Q I r h
  obtain ⟨p, ys, rfl, h⟩ := h
  obtain ⟨u, rfl, rx⟩ := vals1 r
  cases rx
  rcases h with ⟨hq, q⟩ | ⟨hq, q⟩
  · obtain ⟨its, r', pl, hz⟩ := I.list hq
    have hlen := r'.length
    refine call_tuple_list pl.isList (fun h' kp => ?_) (by simp only [List.size_toArray] <;> omega)
    have I1 : Inv X pins σ H { s with heap := h' } := I.kept (t' := s.toks) kp
    obtain ⟨u, hu, hu2⟩ := isPT_any (o := { cls := .type "tuple", data := .seq its.toArray }) ys rfl
    have I2 : Inv X pins σ (upd H h'.objs.size u) { s with heap := h'.push { cls := .type "tuple", data := .seq its.toArray } } :=
      I1.laid (t' := s.toks) (fun b o e => Heap.get?_push_of_some _ e) (Nat.le_refl _) (isPT_ok hu2 (Heap.get?_push_size _ rfl) ⟨hz, its, r', IsTup.new _ _⟩)
    exact ⟨.ref h'.objs.size, _, I2, rfl, q _ _ (I1.hok.fresh (Nat.le_refl _)) hu⟩
  · obtain ⟨its, r', pl, hz⟩ := I.tuple hq
    exact call_tuple_same pl ⟨.ref p, H, I, rfl, q⟩
end
end DL

set_option Elab.async false
set_option linter.all false
set_option maxRecDepth 100000
set_option maxHeartbeats 2000000
set_option autoImplicit false
namespace DL
open PySem PySem.Spec PyProof.Rows L2
/-! ### what a piece of syntax does, by its own meaning -/
section
variable {X : Cx}
def sE (X : Cx) (e : Expr) : TE := fun σ H Q => ∀ (pins : List (Addr × Obj)) (s : Shared), Inv X pins σ H s → wpAny (model X.prog X.w) X.A (eval e X.env) (EP X pins σ Q) X.xe s
theorem pe_s (e : Expr) : PE X e (sE X e) := ⟨fun pins s _ _ _ I h => h pins s I⟩
theorem sE_of {e : Expr} {t : TE} {σ : St} {H : Hp} {Q : VK} (h : PE X e t) (q : t σ H Q) : sE X e σ H Q := fun pins s I => h.run pins s σ H Q I q
theorem EP_mono {pins : List (Addr × Obj)} {σ : St} {Q Q' : VK} {u : Value} {s' : Shared} (h : EP X pins σ Q u s') (k : ∀ v H', Q v H' → Q' v H') : EP X pins σ Q' u s' := by
  obtain ⟨v, H', I, r, q⟩ := h
  exact ⟨v, H', I, r, k v H' q⟩
theorem sE_mono {e : Expr} {σ : St} {H : Hp} {Q Q' : VK} (h : sE X e σ H Q) (k : ∀ v H', Q v H' → Q' v H') : sE X e σ H Q' := fun pins s I => thn (h pins s I) fun _ _ z => EP_mono z k
def sT (X : Cx) (e : Expr) : TT := fun σ H Q => ∀ (pins : List (Addr × Obj)) (s : Shared), Inv X pins σ H s → wpAny (model X.prog X.w) X.A (isTrue e X.env (eval e X.env)) (TP X pins σ Q) X.xe s
theorem pt_s (e : Expr) : PT X e (sT X e) := ⟨fun pins s _ _ _ I h => h pins s I⟩
theorem sT_of {e : Expr} {t : TT} {σ : St} {H : Hp} {Q : Bool → Hp → Prop} (h : PT X e t) (q : t σ H Q) : sT X e σ H Q := fun pins s I => h.run pins s σ H Q I q
def sW (X : Cx) (e : Expr) : TT := fun σ H Q => ∀ (whole : Sem Value) (pins : List (Addr × Obj)) (s : Shared), Inv X pins σ H s → wpAny (model X.prog X.w) X.A (isTrue e X.env whole) (TP X pins σ Q) X.xe s
theorem pw_s (e : Expr) : PW X e (sW X e) := ⟨fun wh pins s _ _ _ I h => h wh pins s I⟩
theorem sW_of {e : Expr} {t : TT} {σ : St} {H : Hp} {Q : Bool → Hp → Prop} (h : PW X e t) (q : t σ H Q) : sW X e σ H Q := fun wh pins s I => h.run wh pins s σ H Q I q
def sS (X : Cx) (st : Stmt) : TS := fun D σ H => ∀ (pins : List (Addr × Obj)) (s : Shared), Inv X pins σ H s → wpAny (model X.prog X.w) X.A (exec st X.env) (SP X pins D) X.xe s
theorem ps_s (st : Stmt) : PS X st (sS X st) := ⟨fun pins s _ _ _ I h => h pins s I⟩
theorem sS_of {st : Stmt} {t : TS} {D : Ends} {σ : St} {H : Hp} (h : PS X st t) (q : t D σ H) : sS X st D σ H := fun pins s I => h.run pins s σ H D I q
def sSs (X : Cx) (st : List Stmt) : TS := fun D σ H => ∀ (pins : List (Addr × Obj)) (s : Shared), Inv X pins σ H s → wpAny (model X.prog X.w) X.A (execs st X.env) (SP X pins D) X.xe s
theorem pss_s (st : List Stmt) : PSs X st (sSs X st) := ⟨fun pins s _ _ _ I h => h pins s I⟩
theorem sSs_of {st : List Stmt} {t : TS} {D : Ends} {σ : St} {H : Hp} (h : PSs X st t) (q : t D σ H) : sSs X st D σ H := fun pins s I => h.run pins s σ H D I q
theorem sSs_cons {st : Stmt} {rest : List Stmt} {t : TS} {D : Ends} {σ : St} {H : Hp} (h : PS X st t) (q : t { D with nx := sSs X rest D } σ H) : sSs X (st :: rest) D σ H := sSs_of (pss_cons h (pss_s rest)) q
/-- an argument list -/
def sEs (X : Cx) : List Expr → TA
  | [] => fun _ H Q => Q [] H
  | e :: r => fun σ H Q => sE X e σ H fun v H1 => sEs X r σ H1 fun vs H2 => Q (v :: vs) H2
def NoStar (X : Cx) : List Expr → Prop
  | [] => True
  | e :: r => starEach (e :: r) X.env = (false, eval e X.env) :: starEach r X.env ∧ NoStar X r
theorem pa_s : ∀ {es : List Expr}, NoStar X es → PA X es (sEs X es)
  | [], _ => pa_nil
  | e :: r, ⟨h1, h2⟩ => pa_cons (pe_s e) (pa_s h2) h1
theorem sEs_mono : ∀ {es : List Expr} {σ : St} {H : Hp} {Q Q' : List V → Hp → Prop}, sEs X es σ H Q → (∀ v H', Q v H' → Q' v H') → sEs X es σ H Q'
  | [], _, _, _, _, h, k => k _ _ h
  | e :: r, _, _, _, _, h, k => sE_mono h fun v H1 h1 => sEs_mono (es := r) h1 fun vs H2 h2 => k _ _ h2
/-- what comes is locked for good -/
def tFrz (t : TE) : TE := fun σ H Q => t σ H fun v H' => ∃ a u, v = .ref a ∧ H' a = some u ∧ Mut (some u) ∧ ∀ o, Q v (upd H' a (.frz o u))
theorem pe_frz {e : Expr} {t : TE} (h : PE X e t) : PE X e (tFrz t) := by
  refine ⟨fun pins s σ H Q I hw => ?_⟩
  refine thn (h.run pins s σ H _ I hw) fun u s1 ⟨v, H1, I1, r, a, w, ev, ha, mu, q⟩ => ?_
  obtain ⟨od, I2⟩ := I1.lock ha mu
  exact ⟨v, _, I2, r, q od⟩
end

/-! ### judgements of expressions -/
/-- a value, maybe a list that a slot holds -/
inductive RpW (K : Fr_) (H : Hp) : V → D → Prop
  | st {v : V} {d : D} (h : Rp K H v d) : RpW K H v d
  | ow {a : Addr} {xs : List V} {ds : List D} (h : H a = some (.lst xs)) (r : RpA K H xs ds) : RpW K H (.ref a) (.list ds)
  | od {a : Addr} {ws : List (Key × V)} {kvs : List (D × D)} (h : H a = some (.dK ws)) (r : RpK K H ws kvs) : RpW K H (.ref a) (.dict kvs)
inductive RpWA (K : Fr_) (H : Hp) : List V → List D → Prop
  | nil : RpWA K H [] []
  | cons {v : V} {vs : List V} {d : D} {ds : List D} : RpW K H v d → RpWA K H vs ds → RpWA K H (v :: vs) (d :: ds)
theorem RpW.same {K : Fr_} {H H' : Hp} (s : Same H H') {v : V} {d : D} (h : RpW K H v d) : RpW K H' v d := by
  cases h with
  | st h => exact .st (h.mono (.of_same s))
  | ow h r => exact .ow (s _ _ h) (r.mono (.of_same s))
  | od h r => exact .od (s _ _ h) (r.mono (.of_same s))
theorem RpWA.same {K : Fr_} {H H' : Hp} (s : Same H H') : ∀ {vs : List V} {ds : List D}, RpWA K H vs ds → RpWA K H' vs ds
  | _, _, .nil => .nil
  | _, _, .cons h r => .cons (h.same s) (RpWA.same s r)
theorem RpWA.of {K : Fr_} {H : Hp} : ∀ {vs : List V} {ds : List D}, RpA K H vs ds → RpWA K H vs ds
  | _, _, .nil => .nil
  | _, _, .cons h r => .cons (.st h) (RpWA.of r)
theorem RpW.dp {K : Fr_} {H : Hp} {v : V} {d : D} (h : RpW K H v d) (n : d.hasDict = false) : Dp K H v d := by
  cases h with
  | st h => exact h.dp n
  | ow h r => exact .lst (SqL.of h) (r.dp (by simpa [PyData.hasDict] using n))
  | od h r => simp [PyData.hasDict] at n
/-- a dict, read -/
theorem RpW.dict {K : Fr_} {H : Hp} {v : V} {kvs : List (D × D)} (h : RpW K H v (.dict kvs)) : ∃ a ws, v = .ref a ∧ Rd H a (.dK ws) ∧ RpK K H ws kvs := by
  cases h with
  | st h => cases h with | dct h e r => exact ⟨_, _, rfl, .inr h, e, r⟩
  | od h r => exact ⟨_, _, rfl, .inl h, r⟩
theorem RpW.int {K : Fr_} {H : Hp} {v : V} {i : Int} (h : RpW K H v (.int i)) : v = .int i := by
  cases h with | st h => cases h; rfl
theorem RpW.str {K : Fr_} {H : Hp} {v : V} {i : Str} (h : RpW K H v (.str i)) : v = .str i := by
  cases h with | st h => cases h; rfl
theorem RpW.bool {K : Fr_} {H : Hp} {v : V} {i : Bool} (h : RpW K H v (.bool i)) : v = .bl i := by
  cases h with | st h => cases h; rfl
theorem RpW.none_ {K : Fr_} {H : Hp} {v : V} (h : RpW K H v .none) : v = .non := by
  cases h with | st h => cases h; rfl
theorem RpW.tuple {K : Fr_} {H : Hp} {v : V} {ds : List D} (h : RpW K H v (.tuple ds)) : ∃ a xs, v = .ref a ∧ SqT K H a xs ∧ RpA K H xs ds := by
  cases h with | st h => cases h with | tup h r => exact ⟨_, _, rfl, h.sq, r⟩
theorem RpW.tupleP {K : Fr_} {H : Hp} {v : V} {ds : List D} (h : RpW K H v (.tuple ds)) : ∃ a xs, v = .ref a ∧ TupP K H a xs ∧ RpA K H xs ds := by
  cases h with | st h => cases h with | tup h r => exact ⟨_, _, rfl, h, r⟩
theorem RpW.list {K : Fr_} {H : Hp} {v : V} {ds : List D} (h : RpW K H v (.list ds)) : ∃ a xs, v = .ref a ∧ SqL K H a xs ∧ RpA K H xs ds := by
  cases h with
  | st h => cases h with | lst h r => exact ⟨_, _, rfl, h.sq, r⟩
  | ow h r => exact ⟨_, _, rfl, SqL.of h, r⟩
theorem EnvOk.fresh0 {K : Fr_} {c : FC} {σ : St} {H : Hp} {Γ : Env_} (E : EnvOk K c σ H Γ) {a : Addr} (h : H a = none) : c.H0 a = none := by
  cases q : c.H0 a with
  | none => rfl
  | some o =>
    by_cases hm : ∃ p ∈ c.M, p.2 = a
    · obtain ⟨p, hp, e⟩ := hm
      obtain ⟨h1, k, h2, h3⟩ := E.pins p hp
      obtain ⟨xs, z, _⟩ := E.owned ⟨p.1, k, h2, h3, h1⟩
      rw [e, h] at z
      cases z
    · have z := E.pres a o q fun p hp e => hm ⟨p, hp, e⟩
      rw [h] at z
      cases z
theorem EnvOk.notOwn {K : Fr_} {c : FC} {σ : St} {H : Hp} {Γ : Env_} (E : EnvOk K c σ H Γ) {a : Addr} (h : H a = none) : ¬ Owns Γ σ a := fun o => by
  obtain ⟨xs, z, _⟩ := E.owned o
  rw [h] at z
  cases z
section
variable (X : Cx) (c : FC) (Γ : Env_)
/-- e gives m's value, which stands still; nothing changes -/
def DE (e : Expr) (m : Option D) : Prop := ∀ d, m = some d → ∀ (σ : St) (H : Hp) (Q : VK), EnvOk X.K c σ H Γ → (∀ v H', Same H H' → Rp X.K H' v d → Q v H') → sE X e σ H Q
/-- .. a value, maybe a list that a slot holds -/
def DW (e : Expr) (m : Option D) : Prop := ∀ d, m = some d → ∀ (σ : St) (H : Hp) (Q : VK), EnvOk X.K c σ H Γ → (∀ v H', Same H H' → RpW X.K H' v d → Q v H') → sE X e σ H Q
/-- .. a new list -/
def DF (e : Expr) (m : Option (List D)) : Prop := ∀ ds, m = some ds → ∀ (σ : St) (H : Hp) (Q : VK), EnvOk X.K c σ H Γ → (∀ a H' xs, H a = none → Same H H' → H' a = some (.lst xs) → RpA X.K H' xs ds → Q (.ref a) H') → sE X e σ H Q
/-- arguments -/
def DA (es : List Expr) (m : Option (List D)) : Prop := ∀ ds, m = some ds → ∀ (σ : St) (H : Hp) (Q : List V → Hp → Prop), EnvOk X.K c σ H Γ → (∀ vs H', Same H H' → RpA X.K H' vs ds → Q vs H') → sEs X es σ H Q
def DAw (es : List Expr) (m : Option (List D)) : Prop := ∀ ds, m = some ds → ∀ (σ : St) (H : Hp) (Q : List V → Hp → Prop), EnvOk X.K c σ H Γ → (∀ vs H', Same H H' → RpWA X.K H' vs ds → Q vs H') → sEs X es σ H Q
/-- a test -/
def DT (e : Expr) (m : Option Bool) : Prop := ∀ b, m = some b → ∀ (σ : St) (H : Hp) (Q : Bool → Hp → Prop), EnvOk X.K c σ H Γ → (∀ H', Same H H' → Q b H') → sT X e σ H Q
def DTw (e : Expr) (m : Option Bool) : Prop := ∀ b, m = some b → ∀ (σ : St) (H : Hp) (Q : Bool → Hp → Prop), EnvOk X.K c σ H Γ → (∀ H', Same H H' → Q b H') → sW X e σ H Q
end
/-- what no slot holds stays; no slot holds what it did not hold; what slots held is there -/
structure Step (Γ Γ' : Env_) (σ : St) (H H' : Hp) : Prop where
  s1 : ∀ b o, H b = some o → ¬ Owns Γ σ b → H' b = some o
  s2 : ∀ a, Owns Γ' σ a → Owns Γ σ a
  s3 : ∀ a, Owns Γ σ a → H' a ≠ none
section
variable (X : Cx) (c : FC) {T : Type} (G : T → Env_)
/-- the same where lists that slots hold may change on the way: G tells the slots from what changes -/
def DX (e : Expr) (m : T → Option (D × T)) : Prop := ∀ t d t', m t = some (d, t') → ∀ (σ : St) (H : Hp) (Q : VK), EnvOk X.K c σ H (G t) → (∀ v H', EnvOk X.K c σ H' (G t') → Step (G t) (G t') σ H H' → Rp X.K H' v d → Q v H') → sE X e σ H Q
def DXF (e : Expr) (m : T → Option (List D × T)) : Prop := ∀ t ds t', m t = some (ds, t') → ∀ (σ : St) (H : Hp) (Q : VK), EnvOk X.K c σ H (G t) → (∀ a H' xs, H a = none → EnvOk X.K c σ H' (G t') → Step (G t) (G t') σ H H' → H' a = some (.lst xs) → RpA X.K H' xs ds → Q (.ref a) H') → sE X e σ H Q
def DXA (es : List Expr) (m : T → Option (List D × T)) : Prop := ∀ t ds t', m t = some (ds, t') → ∀ (σ : St) (H : Hp) (Q : List V → Hp → Prop), EnvOk X.K c σ H (G t) → (∀ vs H', EnvOk X.K c σ H' (G t') → Step (G t) (G t') σ H H' → RpA X.K H' vs ds → Q vs H') → sEs X es σ H Q
def DXT (e : Expr) (m : T → Option (Bool × T)) : Prop := ∀ t b t', m t = some (b, t') → ∀ (σ : St) (H : Hp) (Q : Bool → Hp → Prop), EnvOk X.K c σ H (G t) → (∀ H', EnvOk X.K c σ H' (G t') → Step (G t) (G t') σ H H' → Q b H') → sT X e σ H Q
def DXTw (e : Expr) (m : T → Option (Bool × T)) : Prop := ∀ t b t', m t = some (b, t') → ∀ (σ : St) (H : Hp) (Q : Bool → Hp → Prop), EnvOk X.K c σ H (G t) → (∀ H', EnvOk X.K c σ H' (G t') → Step (G t) (G t') σ H H' → Q b H') → sW X e σ H Q
end
theorem Step.refl {K : Fr_} {c : FC} {Γ : Env_} {σ : St} {H : Hp} (E : EnvOk K c σ H Γ) : Step Γ Γ σ H H := ⟨fun _ _ h _ => h, fun _ h => h, fun a h => by
  obtain ⟨xs, e, _⟩ := E.owned h
  rw [e]
  intro z
  cases z⟩
theorem Step.of_same {K : Fr_} {c : FC} {Γ : Env_} {σ : St} {H H' : Hp} (E : EnvOk K c σ H Γ) (s : Same H H') : Step Γ Γ σ H H' := ⟨fun b o h _ => s b o h, fun _ h => h, fun a h => by
  obtain ⟨xs, e, _⟩ := E.owned h
  rw [s _ _ e]
  intro z
  cases z⟩
theorem Step.trans {Γ Γ1 Γ2 : Env_} {σ : St} {H H1 H2 : Hp} (a : Step Γ Γ1 σ H H1) (b : Step Γ1 Γ2 σ H1 H2) : Step Γ Γ2 σ H H2 := ⟨fun x o e n => b.1 x o (a.1 x o e n) fun q => n (a.2 x q), fun x h => a.2 x (b.2 x h), fun x h => by
  by_cases hw : Owns Γ1 σ x
  · exact b.3 x hw
  · cases q : H1 x with
    | none => exact absurd q (a.3 x h)
    | some o =>
      rw [b.1 x o q hw]
      intro z
      cases z⟩
theorem Step.mono {K : Fr_} {c : FC} {Γ Γ1 : Env_} {σ : St} {H H1 : Hp} (E : EnvOk K c σ H Γ) (a : Step Γ Γ1 σ H H1) : Mono H H1 := Kept.mono E a.1
theorem Step.free {K : Fr_} {c : FC} {Γ Γ1 : Env_} {σ : St} {H H1 : Hp} (E : EnvOk K c σ H Γ) (a : Step Γ Γ1 σ H H1) {p : Addr} (h : H1 p = none) : H p = none := by
  cases q : H p with
  | none => rfl
  | some o =>
    by_cases hw : Owns Γ σ p
    · exfalso
      exact a.3 p hw h
    · rw [a.1 p o q hw] at h
      cases h
section
variable {X : Cx} {c : FC} {Γ : Env_}
theorem DE.w {e : Expr} {m : Option D} (h : DE X c Γ e m) : DW X c Γ e m := fun d hd σ H Q E k => h d hd σ H Q E fun v H' s r => k v H' s (.st r)
theorem DA.w {es : List Expr} {m : Option (List D)} (h : DA X c Γ es m) : DAw X c Γ es m := fun d hd σ H Q E k => h d hd σ H Q E fun v H' s r => k v H' s (.of r)
theorem DTw.t {e : Expr} {m : Option Bool} (h : DTw X c Γ e m) : DT X c Γ e m := fun d hd σ H Q E k => fun pins s I => h d hd σ H Q E k _ pins s I
/-- a list that was made and is held by no slot stands still from then on -/
theorem DF.e {e : Expr} {m : Option (List D)} (h : DF X c Γ e m) : DE X c Γ e (m.map .list) := fun d hd σ H Q E k => by
  obtain ⟨ds, e1, rfl⟩ := Option.map_eq_some_iff.mp hd
  refine sE_of (pe_frz (pe_s e)) ?_
  refine h ds e1 σ H _ E fun a H' xs hn s ha r => ⟨a, _, rfl, ha, trivial, fun o => ?_⟩
  have m' : Mono H' (upd H' a (.frz o (.lst xs))) := by
    refine ⟨fun b zs hb => ?_, fun b o' u hb => ?_⟩
    · rw [upd_ne (ne_of hb ha (by intro z; cases z))]
      exact hb
    · rw [upd_ne (ne_of hb ha (by intro z; cases z))]
      exact hb
  refine k _ _ (fun b o' e' => ?_) (.lst (.inl ⟨o, upd_same⟩) (r.mono m'))
  rw [upd_ne (ne_of_none e' hn)]
  exact s b o' e'
/-! constants, names -/
theorem de_int {i : Int} {j : Nat} {pos : Pos} : DE X c Γ (.Constant (.int i) j pos) (some (.int i)) := fun d hd σ H Q E k => by
  cases hd
  exact sE_of pe_int (k _ H (Same.refl H) (.int i))
theorem de_str {i : Str} {j : Nat} {pos : Pos} : DE X c Γ (.Constant (.str i) j pos) (some (.str i)) := fun d hd σ H Q E k => by
  cases hd
  exact sE_of pe_str (k _ H (Same.refl H) (.str i))
theorem de_bool {i : Bool} {j : Nat} {pos : Pos} : DE X c Γ (.Constant (.bool i) j pos) (some (.bool i)) := fun d hd σ H Q E k => by
  cases hd
  exact sE_of pe_bl (k _ H (Same.refl H) (.bl i))
theorem de_none {j : Nat} {pos : Pos} : DE X c Γ (.Constant .none j pos) (some .none) := fun d hd σ H Q E k => by
  cases hd
  exact sE_of pe_non (k _ H (Same.refl H) .non)
theorem de_var (i : Nat) {d : D} {x : Str} {pos : Pos} (h : Γ[i]? = some (.imm d) := by rfl) (hN : X.N[i]? = some x := by rfl) (hv : Vis X.env.scope x := by first | exact Or.inl rfl | exact Or.inr (Or.inl rfl) | exact Or.inr (Or.inr rfl)) (hd : (x == ("__debug__" : Str)) = false := by decide)
    (hcd : (x == ("__classdict__" : Str)) = false := by decide) : DE X c Γ (.Name x pos) (some d) := fun d' hd' σ H Q E k => by
  cases hd'
  obtain ⟨v, e, r⟩ := E.cells i _ h
  exact sE_of (pe_var hN hv hd hcd) ⟨v, e, k v H (Same.refl H) r⟩
theorem dw_own (i : Nat) {ds : List D} {x : Str} {pos : Pos} (h : Γ[i]? = some (.own ds) := by rfl) (hN : X.N[i]? = some x := by rfl) (hv : Vis X.env.scope x := by first | exact Or.inl rfl | exact Or.inr (Or.inl rfl) | exact Or.inr (Or.inr rfl)) (hd : (x == ("__debug__" : Str)) = false := by decide)
    (hcd : (x == ("__classdict__" : Str)) = false := by decide) : DW X c Γ (.Name x pos) (some (.list ds)) := fun d' hd' σ H Q E k => by
  cases hd'
  obtain ⟨a, xs, e, ha, r⟩ := E.cells i _ h
  exact sE_of (pe_var hN hv hd hcd) ⟨_, e, k _ H (Same.refl H) (.ow ha r)⟩
theorem de_gint {x : Str} {i : Int} {pos : Pos} (hm : ∃ t, X.mg x = some (.int i t)) (hg : Gl X x := by rfl) (hd : (x == ("__debug__" : Str)) = false := by decide) : DE X c Γ (.Name x pos) (some (.int i)) := fun d' hd' σ H Q E k => by
  cases hd'
  obtain ⟨t, hm⟩ := hm
  exact sE_of (pe_glob (v := .int i) hg hm ⟨t, rfl⟩ hd) (k _ H (Same.refl H) (.int i))
theorem de_gstr {x i : Str} {pos : Pos} (hm : ∃ t, X.mg x = some (.str i t)) (hg : Gl X x := by rfl) (hd : (x == ("__debug__" : Str)) = false := by decide) : DE X c Γ (.Name x pos) (some (.str i)) := fun d' hd' σ H Q E k => by
  cases hd'
  obtain ⟨t, hm⟩ := hm
  exact sE_of (pe_glob (v := .str i) hg hm ⟨t, rfl⟩ hd) (k _ H (Same.refl H) (.str i))
/-! arguments -/
def consO (m : Option D) (ms : Option (List D)) : Option (List D) := m.bind fun x => ms.map (x :: ·)
theorem da_nil : DA X c Γ [] (some []) := fun ds hd σ H Q E k => by
  cases hd
  exact k [] H (Same.refl H) .nil
theorem da_cons {e : Expr} {es : List Expr} {m : Option D} {ms : Option (List D)} (h : DE X c Γ e m) (hs : DA X c Γ es ms) : DA X c Γ (e :: es) (consO m ms) := fun ds hd σ H Q E k => by
  obtain ⟨x, e1, e2⟩ := Option.bind_eq_some_iff.mp hd
  obtain ⟨xs, e3, rfl⟩ := Option.map_eq_some_iff.mp e2
  refine h x e1 σ H _ E fun v H1 s1 r1 => hs xs e3 σ H1 _ (E.same s1) fun vs H2 s2 r2 => k _ _ (s1.trans s2) (.cons (r1.mono (.of_same s2)) r2)
theorem daw_nil : DAw X c Γ [] (some []) := fun ds hd σ H Q E k => by
  cases hd
  exact k [] H (Same.refl H) .nil
theorem daw_cons {e : Expr} {es : List Expr} {m : Option D} {ms : Option (List D)} (h : DW X c Γ e m) (hs : DAw X c Γ es ms) : DAw X c Γ (e :: es) (consO m ms) := fun ds hd σ H Q E k => by
  obtain ⟨x, e1, e2⟩ := Option.bind_eq_some_iff.mp hd
  obtain ⟨xs, e3, rfl⟩ := Option.map_eq_some_iff.mp e2
  refine h x e1 σ H _ E fun v H1 s1 r1 => hs xs e3 σ H1 _ (E.same s1) fun vs H2 s2 r2 => k _ _ (s1.trans s2) (.cons (r1.same s2) r2)
/-! two-place operators -/
def bin (g : D → D → Option D) (a b : Option D) : Option D := a.bind fun x => b.bind fun y => g x y
/-- an operator, by values: g tells its value -/
def OpD (X : Cx) (f : Value → Value → Sem Value) (g : D → D → Option D) : Prop :=
  OpR X f fun v u H Q => ∃ x y z, RpW X.K H v x ∧ RpW X.K H u y ∧ g x y = some z ∧ ∀ w H', Same H H' → Rp X.K H' w z → Q w H'
theorem de_op {op : Operator} {g : D → D → Option D} {a b : Expr} {ma mb : Option D} {pos : Pos} (ho : OpD X (binaryOp op) g) (ha : DW X c Γ a ma) (hb : DW X c Γ b mb) : DE X c Γ (.BinOp a op b pos) (bin g ma mb) := fun d hd σ H Q E k => by
  obtain ⟨x, e1, e2⟩ := Option.bind_eq_some_iff.mp hd
  obtain ⟨y, e3, e4⟩ := Option.bind_eq_some_iff.mp e2
  refine sE_of (pe_op ho (pe_s a) (pe_s b)) ?_
  refine ha x e1 σ H _ E fun v H1 s1 r1 => hb y e3 σ H1 _ (E.same s1) fun u H2 s2 r2 => ⟨x, y, d, r1.same s2, r2, e4, fun w H3 s3 r3 => k w H3 ((s1.trans s2).trans s3) r3⟩
theorem de_cmp {op : CmpOp} {g : D → D → Option D} {a b : Expr} {ma mb : Option D} {pos : Pos} (ho : OpD X (compareOp op) g) (ha : DW X c Γ a ma) (hb : DW X c Γ b mb) (hm : behindInMarks op b = false := by first | rfl | exact nomark _) : DE X c Γ (.Compare a [op] [b] pos) (bin g ma mb) := fun d hd σ H Q E k => by
  obtain ⟨x, e1, e2⟩ := Option.bind_eq_some_iff.mp hd
  obtain ⟨y, e3, e4⟩ := Option.bind_eq_some_iff.mp e2
  refine sE_of (pe_cmpR ho (pe_s a) (pe_s b) hm) ?_
  refine ha x e1 σ H _ E fun v H1 s1 r1 => hb y e3 σ H1 _ (E.same s1) fun u H2 s2 r2 => ⟨x, y, d, r1.same s2, r2, e4, fun w H3 s3 r3 => k w H3 ((s1.trans s2).trans s3) r3⟩
def isB : D → Option Bool
  | .bool b => some b
  | _ => none
theorem isB_eq {d : D} {b : Bool} (h : isB d = some b) : d = .bool b := by
  cases d <;> simp [isB] at h
  rw [h]
theorem dt_cmp {op : CmpOp} {g : D → D → Option D} {a b : Expr} {ma mb : Option D} {pos : Pos} (ho : OpD X (compareOp op) g) (ha : DW X c Γ a ma) (hb : DW X c Γ b mb) (hm : behindInMarks op b = false := by first | rfl | exact nomark _) : DT X c Γ (.Compare a [op] [b] pos) ((bin g ma mb).bind isB) := fun d hd σ H Q E k => by
  obtain ⟨z, e0, e5⟩ := Option.bind_eq_some_iff.mp hd
  obtain ⟨x, e1, e2⟩ := Option.bind_eq_some_iff.mp e0
  obtain ⟨y, e3, e4⟩ := Option.bind_eq_some_iff.mp e2
  have ez := isB_eq e5
  subst ez
  refine sT_of (pt_cmpR ho (pe_s a) (pe_s b) hm) ?_
  refine ha x e1 σ H _ E fun v H1 s1 r1 => hb y e3 σ H1 _ (E.same s1) fun u H2 s2 r2 => ⟨x, y, _, r1.same s2, r2, e4, fun w H3 s3 r3 => ⟨d, RpW.bool (.st r3), k H3 ((s1.trans s2).trans s3)⟩⟩
/-- a < b < c -/
def chainO (g g' : D → D → Option D) (a b c : Option D) : Option D := a.bind fun x => b.bind fun y => (g x y).bind fun z => (isB z).bind fun t => if t then c.bind fun w => g' y w else some (.bool false)
theorem de_chain {op op' : CmpOp} {g g' : D → D → Option D} {a b e : Expr} {ma mb me : Option D} {pos : Pos} (ho : OpD X (compareOp op) g) (ho' : OpD X (compareOp op') g') (ha : DW X c Γ a ma) (hb : DW X c Γ b mb) (he : DW X c Γ e me)
    (hm : lastMarks [op, op'] [b, e] = false := by with_unfolding_all rfl) : DE X c Γ (.Compare a [op, op'] [b, e] pos) (chainO g g' ma mb me) := fun d hd σ H Q E k => by
  obtain ⟨x, e1, e2⟩ := Option.bind_eq_some_iff.mp hd
  obtain ⟨y, e3, e4⟩ := Option.bind_eq_some_iff.mp e2
  obtain ⟨z, e5, e6⟩ := Option.bind_eq_some_iff.mp e4
  obtain ⟨t, e7, e8⟩ := Option.bind_eq_some_iff.mp e6
  have ez := isB_eq e7
  subst ez
  refine sE_of (pe_chain ho ho' (pe_s a) (pe_s b) (pe_s e) hm) ?_
  refine ha x e1 σ H _ E fun v H1 s1 r1 => hb y e3 σ H1 _ (E.same s1) fun u H2 s2 r2 => ⟨x, y, _, r1.same s2, r2, e5, fun w H3 s3 r3 => ⟨t, RpW.bool (.st r3), ?_⟩⟩
  cases t with
  | true =>
    rw [if_pos rfl] at e8 ⊢
    obtain ⟨w2, e9, e10⟩ := Option.bind_eq_some_iff.mp e8
    exact he w2 e9 σ H3 _ ((E.same (s1.trans s2)).same s3) fun u4 H4 s4 r4 => ⟨y, w2, d, (r2.same s3).same s4, r4, e10, fun w5 H5 s5 r5 => k w5 H5 ((((s1.trans s2).trans s3).trans s4).trans s5) r5⟩
  | false =>
    rw [if_neg Bool.false_ne_true] at e8 ⊢
    cases e8
    exact k _ _ ((s1.trans s2).trans s3) (.bl false)
end
end DL

set_option Elab.async false
set_option linter.all false
set_option maxRecDepth 100000
set_option maxHeartbeats 2000000
set_option autoImplicit false
namespace DL
open PySem PySem.Spec PyProof.Rows L2
section
variable {X : Cx} {c : FC} {Γ : Env_}
theorem dt_chain {op op' : CmpOp} {g g' : D → D → Option D} {a b e : Expr} {ma mb me : Option D} {pos : Pos} (ho : OpD X (compareOp op) g) (ho' : OpD X (compareOp op') g') (ha : DW X c Γ a ma) (hb : DW X c Γ b mb) (he : DW X c Γ e me)
    (hm : lastMarks [op, op'] [b, e] = false := by with_unfolding_all rfl) : DT X c Γ (.Compare a [op, op'] [b, e] pos) ((chainO g g' ma mb me).bind isB) := fun d hd σ H Q E k => by
  obtain ⟨w0, e0, e00⟩ := Option.bind_eq_some_iff.mp hd
  obtain ⟨x, e1, e2⟩ := Option.bind_eq_some_iff.mp e0
  obtain ⟨y, e3, e4⟩ := Option.bind_eq_some_iff.mp e2
  obtain ⟨z, e5, e6⟩ := Option.bind_eq_some_iff.mp e4
  obtain ⟨t, e7, e8⟩ := Option.bind_eq_some_iff.mp e6
  have ez := isB_eq e7
  subst ez
  have ew := isB_eq e00
  subst ew
  refine sT_of (pt_chain ho ho' (pe_s a) (pe_s b) (pe_s e) hm) ?_
  refine ha x e1 σ H _ E fun v H1 s1 r1 => hb y e3 σ H1 _ (E.same s1) fun u H2 s2 r2 => ⟨x, y, _, r1.same s2, r2, e5, fun w H3 s3 r3 => ⟨t, RpW.bool (.st r3), ?_⟩⟩
  cases t with
  | true =>
    rw [if_pos rfl] at e8 ⊢
    obtain ⟨w2, e9, e10⟩ := Option.bind_eq_some_iff.mp e8
    exact he w2 e9 σ H3 _ ((E.same (s1.trans s2)).same s3) fun u4 H4 s4 r4 => ⟨y, w2, _, (r2.same s3).same s4, r4, e10, fun w5 H5 s5 r5 => ⟨d, RpW.bool (.st r5), k H5 ((((s1.trans s2).trans s3).trans s4).trans s5)⟩⟩
  | false =>
    rw [if_neg Bool.false_ne_true] at e8 ⊢
    cases e8
    exact ⟨false, rfl, k _ ((s1.trans s2).trans s3)⟩
/-! and, or, not as tests -/
def andT (a b : Option Bool) : Option Bool := a.bind fun x => if x then b else some false
def orT (a b : Option Bool) : Option Bool := a.bind fun x => if x then some true else b
theorem dt_val {e : Expr} {m : Option D} (h : DE X c Γ e m) (he : ∀ whole, isTrue e X.env whole = (do let v ← whole; standAt e.pos; holding [v] (truthy v)) := by intro _; rfl) : DT X c Γ e (m.bind isB) := fun d hd σ H Q E k => by
  obtain ⟨z, e0, e5⟩ := Option.bind_eq_some_iff.mp hd
  have ez := isB_eq e5
  subst ez
  exact sT_of (pt_val (pe_s e) he) (h _ e0 σ H _ E fun v H' s r => ⟨d, RpW.bool (.st r), k H' s⟩)
theorem dw_and1 {a : Expr} {ma : Option Bool} {pos : Pos} (h : DT X c Γ a ma) : DTw X c Γ (.BoolOp .And [a] pos) ma := fun d hd σ H Q E k => sW_of (pw_and1 (pt_s a)) (h d hd σ H _ E k)
theorem dw_or1 {a : Expr} {ma : Option Bool} {pos : Pos} (h : DT X c Γ a ma) : DTw X c Γ (.BoolOp .Or [a] pos) ma := fun d hd σ H Q E k => sW_of (pw_or1 (pt_s a)) (h d hd σ H _ E k)
theorem dw_and {a b : Expr} {rest : List Expr} {ma mb : Option Bool} {pos : Pos} (h : DT X c Γ a ma) (hb : DTw X c Γ (.BoolOp .And (b :: rest) pos) mb) : DTw X c Γ (.BoolOp .And (a :: b :: rest) pos) (andT ma mb) := fun d hd σ H Q E k => by
  obtain ⟨x, e1, e2⟩ := Option.bind_eq_some_iff.mp hd
  refine sW_of (pw_and (pt_s a) (pw_s _)) (h x e1 σ H _ E fun H1 s1 => ?_)
  cases x with
  | true => exact iteT (hb d e2 σ H1 _ (E.same s1) fun H2 s2 => k H2 (s1.trans s2))
  | false =>
    rw [if_neg Bool.false_ne_true] at e2
    cases e2
    exact iteF (k H1 s1)
theorem dw_or {a b : Expr} {rest : List Expr} {ma mb : Option Bool} {pos : Pos} (h : DT X c Γ a ma) (hb : DTw X c Γ (.BoolOp .Or (b :: rest) pos) mb) : DTw X c Γ (.BoolOp .Or (a :: b :: rest) pos) (orT ma mb) := fun d hd σ H Q E k => by
  obtain ⟨x, e1, e2⟩ := Option.bind_eq_some_iff.mp hd
  refine sW_of (pw_or (pt_s a) (pw_s _)) (h x e1 σ H _ E fun H1 s1 => ?_)
  cases x with
  | true =>
    rw [if_pos rfl] at e2
    cases e2
    exact iteT (k H1 s1)
  | false => exact iteF (hb d e2 σ H1 _ (E.same s1) fun H2 s2 => k H2 (s1.trans s2))
theorem dt_not {a : Expr} {ma : Option Bool} {pos : Pos} (h : DT X c Γ a ma) : DT X c Γ (.UnaryOp .Not a pos) (ma.map (!·)) := fun d hd σ H Q E k => by
  obtain ⟨x, e1, rfl⟩ := Option.map_eq_some_iff.mp hd
  exact sT_of (pt_not (pt_s a)) (h x e1 σ H _ E fun H1 s1 => k H1 s1)
/-! the same as values -/
def andV (a b : Option D) : Option D := (a.bind isB).bind fun x => if x then b else some (.bool false)
def orV (a b : Option D) : Option D := (a.bind isB).bind fun x => if x then some (.bool true) else b
def notV (a : Option D) : Option D := (a.bind isB).map fun x => .bool (!x)
theorem de_one {op : BoolOp} {a : Expr} {ma : Option D} {pos : Pos} (h : DE X c Γ a ma) : DE X c Γ (.BoolOp op [a] pos) ma := fun d hd σ H Q E k => sE_of (pe_one (pe_s a)) (h d hd σ H Q E k)
theorem de_and {a b : Expr} {rest : List Expr} {ma mb : Option D} {pos : Pos} (h : DE X c Γ a ma) (hb : DE X c Γ (.BoolOp .And (b :: rest) pos) mb) : DE X c Γ (.BoolOp .And (a :: b :: rest) pos) (andV ma mb) := fun d hd σ H Q E k => by
  obtain ⟨x, e0, e2⟩ := Option.bind_eq_some_iff.mp hd
  obtain ⟨z, e1, e3⟩ := Option.bind_eq_some_iff.mp e0
  have ez := isB_eq e3
  subst ez
  refine sE_of (pe_and (pe_s a) (pe_s _)) (h _ e1 σ H _ E fun v H1 s1 r1 => ⟨x, RpW.bool (.st r1), ?_⟩)
  cases x with
  | true => exact iteT (hb d e2 σ H1 _ (E.same s1) fun w H2 s2 r2 => k w H2 (s1.trans s2) r2)
  | false =>
    rw [if_neg Bool.false_ne_true] at e2
    cases e2
    exact iteF (k _ H1 s1 (.bl false))
theorem de_or {a b : Expr} {rest : List Expr} {ma mb : Option D} {pos : Pos} (h : DE X c Γ a ma) (hb : DE X c Γ (.BoolOp .Or (b :: rest) pos) mb) : DE X c Γ (.BoolOp .Or (a :: b :: rest) pos) (orV ma mb) := fun d hd σ H Q E k => by
  obtain ⟨x, e0, e2⟩ := Option.bind_eq_some_iff.mp hd
  obtain ⟨z, e1, e3⟩ := Option.bind_eq_some_iff.mp e0
  have ez := isB_eq e3
  subst ez
  refine sE_of (pe_or (pe_s a) (pe_s _)) (h _ e1 σ H _ E fun v H1 s1 r1 => ⟨x, RpW.bool (.st r1), ?_⟩)
  cases x with
  | true =>
    rw [if_pos rfl] at e2
    cases e2
    exact iteT (k _ H1 s1 (.bl true))
  | false => exact iteF (hb d e2 σ H1 _ (E.same s1) fun w H2 s2 r2 => k w H2 (s1.trans s2) r2)
theorem de_not {a : Expr} {ma : Option D} {pos : Pos} (h : DE X c Γ a ma) : DE X c Γ (.UnaryOp .Not a pos) (notV ma) := fun d hd σ H Q E k => by
  obtain ⟨x, e0, rfl⟩ := Option.map_eq_some_iff.mp hd
  obtain ⟨z, e1, e3⟩ := Option.bind_eq_some_iff.mp e0
  have ez := isB_eq e3
  subst ez
  exact sE_of (pe_not (pe_s a)) (h _ e1 σ H _ E fun v H1 s1 r1 => ⟨x, RpW.bool (.st r1), k _ H1 s1 (.bl (!x))⟩)
/-! a if t else b -/
def iteO {α : Type} (t : Option Bool) (a b : Option α) : Option α := t.bind fun x => if x then a else b
theorem de_ite {t a b : Expr} {mt : Option Bool} {ma mb : Option D} {pos : Pos} (ht : DT X c Γ t mt) (ha : DE X c Γ a ma) (hb : DE X c Γ b mb) : DE X c Γ (.IfExp t a b pos) (iteO mt ma mb) := fun d hd σ H Q E k => by
  obtain ⟨x, e1, e2⟩ := Option.bind_eq_some_iff.mp hd
  refine sE_of (pe_ifExp (pt_s t) (pe_s a) (pe_s b)) (ht x e1 σ H _ E fun H1 s1 => ?_)
  cases x with
  | true => exact iteT (ha d e2 σ H1 _ (E.same s1) fun w H2 s2 r2 => k w H2 (s1.trans s2) r2)
  | false => exact iteF (hb d e2 σ H1 _ (E.same s1) fun w H2 s2 r2 => k w H2 (s1.trans s2) r2)
theorem df_ite {t a b : Expr} {mt : Option Bool} {ma mb : Option (List D)} {pos : Pos} (ht : DT X c Γ t mt) (ha : DF X c Γ a ma) (hb : DF X c Γ b mb) : DF X c Γ (.IfExp t a b pos) (iteO mt ma mb) := fun d hd σ H Q E k => by
  obtain ⟨x, e1, e2⟩ := Option.bind_eq_some_iff.mp hd
  refine sE_of (pe_ifExp (pt_s t) (pe_s a) (pe_s b)) (ht x e1 σ H _ E fun H1 s1 => ?_)
  cases x with
  | true => exact iteT (ha d e2 σ H1 _ (E.same s1) fun a H2 xs hn s2 h2 r2 => k a H2 xs (s1.free hn) (s1.trans s2) h2 r2)
  | false => exact iteF (hb d e2 σ H1 _ (E.same s1) fun a H2 xs hn s2 h2 r2 => k a H2 xs (s1.free hn) (s1.trans s2) h2 r2)
/-! displays -/
theorem da_len : ∀ {es : List Expr} {ds : List D}, sEs X es = sEs X es → True := fun _ => trivial
theorem small_ok {n : Nat} (h : n ≤ 1000) : n ≤ sizeLine := Nat.le_trans h (by decide)
def lenOk (m : Option (List D)) : Option (List D) := m.bind fun ds => if ds.length ≤ 100000 then some ds else none
theorem de_tup {es : List Expr} {m : Option (List D)} {x1 : Nat} {pos : Pos} (h : DA X c Γ es m) (hs : NoStar X es := by exact ⟨rfl, rfl, rfl, rfl, trivial⟩) : DE X c Γ (.Tuple es x1 pos) ((lenOk m).map .tuple) := fun d hd σ H Q E k => by
  obtain ⟨ds, e0, rfl⟩ := Option.map_eq_some_iff.mp hd
  obtain ⟨ds', e1, e2⟩ := Option.bind_eq_some_iff.mp e0
  split at e2
  · rename_i hl
    cases e2
    refine sE_of (pe_tup' (pa_s hs)) (h _ e1 σ H _ E fun vs H1 s1 r1 => ⟨?_, fun p u hp hu => ?_⟩)
    · rw [r1.length]
      exact Nat.le_trans hl (by decide)
    · exact k _ _ (s1.trans (Same.new hp)) (.tup (.of hu upd_same) (r1.mono (.of_same (Same.new hp))))
  · cases e2
theorem df_lst {es : List Expr} {m : Option (List D)} {pos : Pos} (h : DA X c Γ es m) (hs : NoStar X es := by exact ⟨rfl, rfl, rfl, rfl, trivial⟩) : DF X c Γ (.List es pos) (lenOk m) := fun d hd σ H Q E k => by
  obtain ⟨ds', e1, e2⟩ := Option.bind_eq_some_iff.mp hd
  split at e2
  · rename_i hl
    cases e2
    refine sE_of (pe_lst (pa_s hs)) (h _ e1 σ H _ E fun vs H1 s1 r1 => ⟨?_, fun p hp => ?_⟩)
    · rw [r1.length]
      exact Nat.le_trans hl (by decide)
    · exact k _ _ _ (s1.free hp) (s1.trans (Same.new hp)) upd_same (r1.mono (.of_same (Same.new hp)))
  · cases e2
/-! dicts -/
/-- data as a key -/
def keyOf : D → Option Key
  | .int i => some (.inl i)
  | .str x => some (.inr x)
  | _ => none
theorem keyOf_keyD (k : Key) : keyOf (keyD k) = some k := by cases k <;> rfl
theorem keyD_keyOf {d : D} {k : Key} (h : keyOf d = some k) : d = keyD k := by
  cases d <;> simp [keyOf] at h <;> subst h <;> rfl
def isK (k : Key) (d : D) : Bool := decide (keyOf d = some k)
theorem isK_keyD (k j : Key) : isK k (keyD j) = decide (j = k) := by
  unfold isK
  rw [keyOf_keyD]
  exact decide_eq_decide.mpr ⟨fun h => Option.some.inj h, fun h => congrArg some h⟩
/-- what stands at k -/
def getK (kvs : List (D × D)) (k : Key) : Option D := (kvs.find? fun p => isK k p.1).map (·.2)
theorem RpK.get {K : Fr_} {H : Hp} (k : Key) : ∀ {ws : List (Key × V)} {kvs : List (D × D)}, RpK K H ws kvs → (valV ws k = none ∧ getK kvs k = none) ∨ ∃ v d, valV ws k = some v ∧ getK kvs k = some d ∧ Rp K H v d
  | [], [], _ => .inl ⟨rfl, rfl⟩
  | [], _ :: _, h => by cases h.1
  | _ :: _, [], h => by cases h.1
  | (j, v) :: r, (q, d) :: r', ⟨h1, h2⟩ => by
    have hq : keyD j = q := (List.cons.inj h1).1
    subst hq
    cases h2 with
    | cons hv hr =>
      by_cases e : j = k
      · exact .inr ⟨v, d, valV_pos e, by simp [getK, List.find?_cons, isK_keyD, e], hv⟩
      · have ih := RpK.get k (ws := r) (kvs := r') ⟨(List.cons.inj h1).2, hr⟩
        have e2 : getK ((keyD j, d) :: r') k = getK r' k := by simp [getK, List.find?_cons, isK_keyD, e]
        rw [e2, valV_neg (p := (j, v)) e]
        exact ih
theorem RpW.key {K : Fr_} {H : Hp} {v : V} {d : D} (h : RpW K H v d) {k : Key} (e : keyOf d = some k) : v = kV k := by
  have := keyD_keyOf e
  subst this
  cases k with
  | inl i => exact h.int
  | inr x => exact h.str
theorem ix_dK : IxR X (fun x y H Q => ∃ (a : Addr) (ws : List (Key × V)) (k : Key) (v : V), x = .ref a ∧ y = kV k ∧ Rd H a (.dK ws) ∧ valV ws k = some v ∧ Q v H) := by
  intro value slice pins s σ H x y v u Q I rx ry h hs
  obtain ⟨a, ws, k, w, rfl, rfl, e, l, q⟩ := h
  obtain rfl : v = Value.ref a := rx
  obtain ⟨z, hd, vs, rel, dd⟩ := dk_rd I.hok e
  obtain ⟨w', hw, rw'⟩ := RelO.some_of (v := w) (o := valueAt vs k) (by rw [← l]; exact rel.val k)
  exact tail_any dd.typeIs slot_dict_getitem.lookup (wpAny_getItem_of (kV_is ry) dd.mapOf hw ⟨w, H, I.tok _, rw', q⟩) hs
/-! items, slices -/
def IxD (X : Cx) (g : D → D → Option D) : Prop := IxR X fun v u H Q => ∃ x y z, RpW X.K H v x ∧ RpW X.K H u y ∧ g x y = some z ∧ ∀ w H', Same H H' → Rp X.K H' w z → Q w H'
def dIx : D → D → Option D
  | .list ds, .int i => atI ds i
  | .tuple ds, .int i => atI ds i
  | .str s, .int i => if s.length ≤ sizeLine then (atI s.cps.toList i).map fun c => .str ⟨#[c]⟩ else none
  | .dict kvs, y => (keyOf y).bind (getK kvs)
  | _, _ => none
theorem RpA.atI {K : Fr_} {H : Hp} {vs : List V} {ds : List D} (r : RpA K H vs ds) {i : Int} {d : D} (h : L2.atI ds i = some d) : ∃ v, L2.atI vs i = some v ∧ Rp K H v d := by
  unfold L2.atI at h ⊢
  rw [r.length]
  obtain ⟨j, e1, e2⟩ := Option.bind_eq_some_iff.mp h
  obtain ⟨v, e3, e4⟩ := r.get e2
  exact ⟨v, by rw [e1]; exact e3, e4⟩
theorem IxR.imp {r r' : R2} (h : IxR X r) (k : ∀ x y H Q, r' x y H Q → r x y H Q) : IxR X r' := fun value slice pins s σ H x y v u Q I rx ry q hs => h value slice pins s σ H x y v u Q I rx ry (k _ _ _ _ q) hs
theorem OpR.imp {f : Value → Value → Sem Value} {r r' : R2} (h : OpR X f r) (k : ∀ x y H Q, r' x y H Q → r x y H Q) : OpR X f r' := fun pins s σ H x y v u Q I rx ry q => h pins s σ H x y v u Q I rx ry (k _ _ _ _ q)
theorem UnR.imp {f : Value → Sem Value} {r r' : V → Hp → VK → Prop} (h : UnR X f r) (k : ∀ x H Q, r' x H Q → r x H Q) : UnR X f r' := fun pins s σ H x v Q I rx q => h pins s σ H x v Q I rx (k _ _ _ q)
theorem CallR.imp {f : Value} {r r' : List V → Hp → VK → Prop} (h : CallR X f r) (k : ∀ x H Q, r' x H Q → r x H Q) : CallR X f r' := fun pins s σ H x v Q I rx q => h pins s σ H x v Q I rx (k _ _ _ q)
theorem MtR.imp {id : String} {r r' : V → List V → Hp → VK → Prop} (h : MtR X id r) (k : ∀ x y H Q, r' x y H Q → r x y H Q) : MtR X id r' := fun pins s σ H x y v u Q I rx ry q => h pins s σ H x y v u Q I rx ry (k _ _ _ _ q)
theorem SlR.imp {r r' : V → Option Int → Option Int → Hp → VK → Prop} (h : SlR X r) (k : ∀ x lo hi H Q, r' x lo hi H Q → r x lo hi H Q) : SlR X r' := fun pins s σ H x v vl vu lo hi sl Q I rx hs pl pu q => h pins s σ H x v vl vu lo hi sl Q I rx hs pl pu (k _ _ _ _ _ q)
theorem id_ix : IxD X dIx := IxR.imp (IxR.or ix_seq ix_dK) fun v u H Q ⟨x, y, z, h1, h2, e, k⟩ => by
  unfold dIx at e
  split at e
  · obtain ⟨a, xs, rfl, hq, r⟩ := h1.list
    have e2 := h2.int
    subst e2
    obtain ⟨w, e3, e4⟩ := r.atI e
    exact .inl (.inl ⟨a, xs, _, w, rfl, rfl, hq, e3, k w H (Same.refl H) e4⟩)
  · obtain ⟨a, xs, rfl, hq, r⟩ := h1.tuple
    have e2 := h2.int
    subst e2
    obtain ⟨w, e3, e4⟩ := r.atI e
    exact .inl (.inr (.inl ⟨a, xs, _, w, rfl, rfl, hq, e3, k w H (Same.refl H) e4⟩))
  · have e1 := h1.str
    have e2 := h2.int
    subst e1 e2
    split at e
    · rename_i hl
      obtain ⟨ch, e3, rfl⟩ := Option.map_eq_some_iff.mp e
      exact .inl (.inr (.inr ⟨_, _, ch, rfl, rfl, hl, e3, k _ H (Same.refl H) (.str _)⟩))
    · cases e
  · obtain ⟨q, e1, e2⟩ := Option.bind_eq_some_iff.mp e
    obtain ⟨a, ws, rfl, hd, r⟩ := h1.dict
    rcases r.get q with ⟨_, z2⟩ | ⟨w, d, g1, g2, g3⟩
    · rw [z2] at e2
      cases e2
    · rw [g2] at e2
      cases e2
      exact .inr ⟨a, ws, q, w, rfl, h2.key e1, hd, g1, k w H (Same.refl H) g3⟩
  · cases e
theorem de_ix {a b : Expr} {ma mb : Option D} {pos : Pos} (ha : DW X c Γ a ma) (hb : DW X c Γ b mb) (hs : PlainIx b := by intro _ _; rfl) : DE X c Γ (.Subscript a b pos) (bin dIx ma mb) := fun d hd σ H Q E k => by
  obtain ⟨x, e1, e2⟩ := Option.bind_eq_some_iff.mp hd
  obtain ⟨y, e3, e4⟩ := Option.bind_eq_some_iff.mp e2
  refine sE_of (pe_ix id_ix (pe_s a) (pe_s b) hs) ?_
  refine ha x e1 σ H _ E fun v H1 s1 r1 => hb y e3 σ H1 _ (E.same s1) fun u H2 s2 r2 => ⟨x, y, d, r1.same s2, r2, e4, fun w H3 s3 r3 => k w H3 ((s1.trans s2).trans s3) r3⟩
/-- a part of a slice -/
def DO (X : Cx) (c : FC) (Γ : Env_) (e : Option Expr) (m : Option (Option Int)) : Prop := ∀ o, m = some o → ∀ (σ : St) (H : Hp) (Q : Option Int → Hp → Prop), EnvOk X.K c σ H Γ → (∀ H', Same H H' → Q o H') → ∃ t : TO, PO X e t ∧ t σ H Q
def isI : D → Option Int
  | .int b => some b
  | _ => none
theorem isI_eq {d : D} {b : Int} (h : isI d = some b) : d = .int b := by
  cases d <;> simp [isI] at h
  rw [h]
def partO : Option (Option D) → Option (Option Int)
  | none => some none
  | some m => m.bind fun d => (isI d).map some
/-- the part's own meaning -/
def sO (X : Cx) : Option Expr → TO
  | none => tNoPart
  | some e => tPart (sE X e)
theorem po_s : ∀ (e : Option Expr), PO X e (sO X e)
  | none => po_none
  | some e => po_some (pe_s e)
inductive DP (X : Cx) (c : FC) (Γ : Env_) : Option Expr → Option (Option Int) → Prop
  | no : DP X c Γ none (some none)
  | yes {e : Expr} {m : Option D} (h : DE X c Γ e m) : DP X c Γ (some e) (m.bind fun d => (isI d).map some)
theorem DP.run {e : Option Expr} {m : Option (Option Int)} (h : DP X c Γ e m) {o : Option Int} (ho : m = some o) {σ : St} {H : Hp} {Q : Option Int → Hp → Prop} (E : EnvOk X.K c σ H Γ) (k : ∀ H', Same H H' → Q o H') : sO X e σ H Q := by
  cases h with
  | no =>
    cases ho
    exact k H (Same.refl H)
  | yes h =>
    obtain ⟨d, e1, e2⟩ := Option.bind_eq_some_iff.mp ho
    obtain ⟨i, e3, rfl⟩ := Option.map_eq_some_iff.mp e2
    have e4 := isI_eq e3
    subst e4
    exact h _ e1 σ H _ E fun v H' s r => ⟨i, RpW.int (.st r), k H' s⟩
theorem RpA.cut {K : Fr_} {H : Hp} {vs : List V} {ds : List D} (r : RpA K H vs ds) (lo hi : Option Int) : RpA K H (cutV vs lo hi) ((ds.drop (HT.sIx ds.length 0 lo)).take (HT.sIx ds.length ds.length hi - HT.sIx ds.length 0 lo)) := by
  unfold cutV
  rw [r.length]
  exact (r.drop _).take _
/-- the items of ds[lo:hi] -/
def cutD {α : Type} (ds : List α) (lo hi : Option Int) : List α := (ds.drop (HT.sIx ds.length 0 lo)).take (HT.sIx ds.length ds.length hi - HT.sIx ds.length 0 lo)
def dSlT (lo hi : Option Int) : D → Option D
  | .tuple ds => some (.tuple (cutD ds lo hi))
  | _ => none
def slO (g : Option Int → Option Int → D → Option D) (m : Option D) (lo hi : Option (Option Int)) : Option D := m.bind fun x => lo.bind fun l => hi.bind fun h => g l h x
theorem cutD_whole {α : Type} {ds : List α} {lo hi : Option Int} (h : HT.sIx ds.length 0 lo = 0 ∧ HT.sIx ds.length ds.length hi = ds.length) : cutD ds lo hi = ds := by
  unfold cutD
  rw [h.1, h.2]
  simp
theorem de_slT {a : Expr} {lo hi : Option Expr} {ma : Option D} {ml mh : Option (Option Int)} {pos p2 : Pos} (ha : DE X c Γ a ma) (hl : DP X c Γ lo ml) (hh : DP X c Γ hi mh) : DE X c Γ (.Subscript a (.Slice lo hi none p2) pos) (slO dSlT ma ml mh) := fun d hd σ H Q E k => by
  obtain ⟨x, e1, e2⟩ := Option.bind_eq_some_iff.mp hd
  obtain ⟨l, e3, e4⟩ := Option.bind_eq_some_iff.mp e2
  obtain ⟨h, e5, e6⟩ := Option.bind_eq_some_iff.mp e4
  unfold dSlT at e6
  split at e6
  · cases e6
    refine sE_of (pe_slice sl_tupA' (pe_s a) (po_s lo) (po_s hi)) ?_
    refine ha _ e1 σ H _ E fun v H1 s1 r1 => hl.run e3 (E.same s1) fun H2 s2 => hh.run e5 ((E.same s1).same s2) fun H3 s3 => ?_
    obtain ⟨b, xs, rfl, hq, r⟩ := RpW.tupleP (.st r1)
    have m23 : Mono H1 H3 := .of_same (s2.trans s3)
    have r' := r.mono m23
    refine ⟨b, xs, rfl, (m23.pt hq).sq, fun hw => ?_, fun hw p u hp hu => ?_⟩
    · rw [r.length] at hw
      exact k _ H3 (s1.trans (s2.trans s3)) (by
        rw [cutD_whole hw]
        exact .tup (m23.pt hq) r')
    · exact k _ _ ((s1.trans (s2.trans s3)).trans (Same.new hp)) (.tup (.of hu upd_same) ((r'.cut l h).mono (.of_same (Same.new hp))))
  · cases e6
theorem df_slL {a : Expr} {lo hi : Option Expr} {ma : Option D} {ml mh : Option (Option Int)} {pos p2 : Pos} (ha : DW X c Γ a ma) (hl : DP X c Γ lo ml) (hh : DP X c Γ hi mh) : DF X c Γ (.Subscript a (.Slice lo hi none p2) pos)
    (ma.bind fun x => ml.bind fun l => mh.bind fun h => match x with | .list ds => some (cutD ds l h) | _ => none) := fun d hd σ H Q E k => by
  obtain ⟨x, e1, e2⟩ := Option.bind_eq_some_iff.mp hd
  obtain ⟨l, e3, e4⟩ := Option.bind_eq_some_iff.mp e2
  obtain ⟨h, e5, e6⟩ := Option.bind_eq_some_iff.mp e4
  split at e6
  · cases e6
    refine sE_of (pe_slice sl_list (pe_s a) (po_s lo) (po_s hi)) ?_
    refine ha _ e1 σ H _ E fun v H1 s1 r1 => hl.run e3 (E.same s1) fun H2 s2 => hh.run e5 ((E.same s1).same s2) fun H3 s3 => ?_
    obtain ⟨b, xs, rfl, hq, r⟩ := (r1.same (s2.trans s3)).list
    refine ⟨b, xs, rfl, hq, fun p hp => ?_⟩
    exact k _ _ _ ((s1.trans (s2.trans s3)).free hp) ((s1.trans (s2.trans s3)).trans (Same.new hp)) upd_same ((r.cut l h).mono (.of_same (Same.new hp)))
  · cases e6
/-! built-in calls by values -/
def CallD (X : Cx) (f : Value) (g : List D → Option D) : Prop := CallR X f fun vs H Q => ∃ ds z, RpWA X.K H vs ds ∧ g ds = some z ∧ ∀ w H', Same H H' → Rp X.K H' w z → Q w H'
def CallF (X : Cx) (f : Value) (g : List D → Option (List D)) : Prop := CallR X f fun vs H Q => ∃ ds z, RpWA X.K H vs ds ∧ g ds = some z ∧ ∀ a H' xs, H a = none → Same H H' → H' a = some (.lst xs) → RpA X.K H' xs z → Q (.ref a) H'
theorem de_callB {x : Str} {id : String} {g : List D → Option D} {e : Expr} {es : List Expr} {m : Option (List D)} {p pos : Pos} (hc : CallD X (.builtin id) g) (hm : X.mg x = none) (ha : DAw X c Γ (e :: es) m) (hg : Gl X x := by rfl) (hv : bootBuiltins x = some (.builtin id) := by decide +kernel)
    (hs : NoStar X (e :: es) := by exact ⟨rfl, rfl, rfl, rfl, trivial⟩) (hn : x ≠ "__name__" := by decide) (hdb : (x == ("__debug__" : Str)) = false := by decide) (hpl : (backTo pos (starEach es X.env)).any (·.1) = false := by rfl) : DE X c Γ (.Call (.Name x p) (e :: es) [] pos) (m.bind g) := fun d hd σ H Q E k => by
  obtain ⟨ds, e1, e2⟩ := Option.bind_eq_some_iff.mp hd
  refine sE_of (pe_callB hc hg hm hv (pa_s hs) hn hdb hs.1 hpl) ?_
  exact ha ds e1 σ H _ E fun vs H1 s1 r1 => ⟨ds, d, r1, e2, fun w H2 s2 r2 => k w H2 (s1.trans s2) r2⟩
theorem df_callB {x : Str} {id : String} {g : List D → Option (List D)} {e : Expr} {es : List Expr} {m : Option (List D)} {p pos : Pos} (hc : CallF X (.builtin id) g) (hm : X.mg x = none) (ha : DAw X c Γ (e :: es) m) (hg : Gl X x := by rfl) (hv : bootBuiltins x = some (.builtin id) := by decide +kernel)
    (hs : NoStar X (e :: es) := by exact ⟨rfl, rfl, rfl, rfl, trivial⟩) (hn : x ≠ "__name__" := by decide) (hdb : (x == ("__debug__" : Str)) = false := by decide) (hpl : (backTo pos (starEach es X.env)).any (·.1) = false := by rfl) : DF X c Γ (.Call (.Name x p) (e :: es) [] pos) (m.bind g) := fun d hd σ H Q E k => by
  obtain ⟨ds, e1, e2⟩ := Option.bind_eq_some_iff.mp hd
  refine sE_of (pe_callB hc hg hm hv (pa_s hs) hn hdb hs.1 hpl) ?_
  exact ha ds e1 σ H _ E fun vs H1 s1 r1 => ⟨ds, d, r1, e2, fun a H2 xs hn s2 h2 r2 => k a H2 xs (s1.free hn) (s1.trans s2) h2 r2⟩
theorem de_callT {x : Str} {id : String} {g : List D → Option D} {e : Expr} {es : List Expr} {m : Option (List D)} {p pos : Pos} (hc : CallD X (.type id) g) (hm : X.mg x = none) (ha : DAw X c Γ (e :: es) m) (hg : Gl X x := by rfl) (hv : bootBuiltins x = some (.type id) := by decide +kernel)
    (hs : NoStar X (e :: es) := by exact ⟨rfl, rfl, rfl, rfl, trivial⟩) (hn : x ≠ "__name__" := by decide) (hdb : (x == ("__debug__" : Str)) = false := by decide) (hpl : (backTo pos (starEach es X.env)).any (·.1) = false := by rfl) : DE X c Γ (.Call (.Name x p) (e :: es) [] pos) (m.bind g) := fun d hd σ H Q E k => by
  obtain ⟨ds, e1, e2⟩ := Option.bind_eq_some_iff.mp hd
  refine sE_of (pe_callTy hc hg hm hv (pa_s hs) hn hdb hs.1 hpl) ?_
  exact ha ds e1 σ H _ E fun vs H1 s1 r1 => ⟨ds, d, r1, e2, fun w H2 s2 r2 => k w H2 (s1.trans s2) r2⟩
theorem df_callT {x : Str} {id : String} {g : List D → Option (List D)} {e : Expr} {es : List Expr} {m : Option (List D)} {p pos : Pos} (hc : CallF X (.type id) g) (hm : X.mg x = none) (ha : DAw X c Γ (e :: es) m) (hg : Gl X x := by rfl) (hv : bootBuiltins x = some (.type id) := by decide +kernel)
    (hs : NoStar X (e :: es) := by exact ⟨rfl, rfl, rfl, rfl, trivial⟩) (hn : x ≠ "__name__" := by decide) (hdb : (x == ("__debug__" : Str)) = false := by decide) (hpl : (backTo pos (starEach es X.env)).any (·.1) = false := by rfl) : DF X c Γ (.Call (.Name x p) (e :: es) [] pos) (m.bind g) := fun d hd σ H Q E k => by
  obtain ⟨ds, e1, e2⟩ := Option.bind_eq_some_iff.mp hd
  refine sE_of (pe_callTy hc hg hm hv (pa_s hs) hn hdb hs.1 hpl) ?_
  exact ha ds e1 σ H _ E fun vs H1 s1 r1 => ⟨ds, d, r1, e2, fun a H2 xs hn s2 h2 r2 => k a H2 xs (s1.free hn) (s1.trans s2) h2 r2⟩
end
end DL

set_option Elab.async false
set_option linter.all false
set_option maxRecDepth 100000
set_option maxHeartbeats 2000000
set_option autoImplicit false
namespace DL
open PySem PySem.Spec PyProof.Rows L2
/-- a truth that nothing reckons out (large numbers on the way) -/
noncomputable def cl (p : Prop) : Bool := @decide p (Classical.propDecidable p)
theorem cl_iff {p : Prop} : cl p = true ↔ p := by
  unfold cl
  exact @decide_eq_true_iff p (Classical.propDecidable p)
/-- an int of at most 1,000 bits -/
noncomputable def fitsM (a : Int) : Bool := cl (a.natAbs < 2 ^ 1000)
def dAdd : D → D → Option D
  | .int a, .int b => some (.int (a + b))
  | .str a, .str b => if a.length + b.length ≤ sizeLine then some (.str (a ++ b)) else none
  | .tuple a, .tuple b => if a.length + b.length ≤ sizeLine then some (.tuple (a ++ b)) else none
  | _, _ => none
def dSub : D → D → Option D
  | .int a, .int b => some (.int (a - b))
  | _, _ => none
noncomputable def dMul : D → D → Option D
  | .int a, .int b => if fitsM a && fitsM b then some (.int (a * b)) else none
  | _, _ => none
noncomputable def dFdiv : D → D → Option D
  | .int a, .int b => if decide (0 < b) && fitsM b then some (.int (a / b)) else none
  | _, _ => none
def dMod : D → D → Option D
  | .int a, .int b => if 0 < b then some (.int (a % b)) else none
  | _, _ => none
noncomputable def dPow : D → D → Option D
  | .int a, .int b => if (cl (0 ≤ b) && cl (b ≤ 1000)) && fitsM a then some (.int (a ^ b.toNat)) else none
  | _, _ => none
def dNeg : D → Option D
  | .int a => some (.int (-a))
  | _ => none
/-- two scalars of one kind -/
def scalD : D → D → Bool
  | .int _, .int _ => true
  | .str _, .str _ => true
  | .bool _, .bool _ => true
  | _, _ => false
def dEq (a b : D) : Option D := if scalD a b || (SeqAt.shaped a && SeqAt.shaped b) then some (.bool (PyData.eqv a b)) else none
def dNe (a b : D) : Option D := if scalD a b || (SeqAt.shaped a && SeqAt.shaped b) then some (.bool (!PyData.eqv a b)) else none
/-- a list of intsD -/
def intsD : List D → Option (List Int)
  | [] => some []
  | .int i :: r => (intsD r).map (i :: ·)
  | _ :: _ => none
theorem ints_eq : ∀ {ds : List D} {ns : List Int}, intsD ds = some ns → ds = ns.map .int
  | [], _, h => by cases h; rfl
  | .int i :: r, ns, h => by
    obtain ⟨z, e, rfl⟩ := Option.map_eq_some_iff.mp h
    rw [ints_eq e]
    rfl
  | .none :: _, _, h => by cases h
  | .bool _ :: _, _, h => by cases h
  | .str _ :: _, _, h => by cases h
  | .list _ :: _, _, h => by cases h
  | .tuple _ :: _, _, h => by cases h
  | .dict _ :: _, _, h => by cases h
theorem ints_map (ns : List Int) : intsD (ns.map .int) = some ns := by
  induction ns with
  | nil => rfl
  | cons n r ih => show (intsD (r.map .int)).map (n :: ·) = _; rw [ih]; rfl
theorem RpA.intsD {K : Fr_} {H : Hp} : ∀ {vs : List V} {ns : List Int}, RpA K H vs (ns.map .int) → vs = ns.map V.int
  | _, [], .nil => rfl
  | _, _ :: _, .cons h r => by
    cases h
    rw [RpA.intsD r]
    rfl
theorem RpA.ofInts {K : Fr_} {H : Hp} : ∀ (ns : List Int), RpA K H (ns.map V.int) (ns.map .int)
  | [] => .nil
  | n :: r => .cons (.int n) (RpA.ofInts r)
def isN : D → Bool
  | .none => true
  | _ => false
/-- the two can be compared -/
def ordOk (a b : D) : Bool := PySem.W.alike a b && (!isN a && (decide (a.depth ≤ 64) && (!a.hasDict && !b.hasDict)))
def dLt (a b : D) : Option D := if ordOk a b then some (.bool (PySem.W.dataLt a b)) else none
def dLe (a b : D) : Option D := if ordOk a b then some (.bool (!PySem.W.dataLt b a)) else none
def dGt (a b : D) : Option D := if ordOk a b then some (.bool (PySem.W.dataLt b a)) else none
def dGe (a b : D) : Option D := if ordOk a b then some (.bool (!PySem.W.dataLt a b)) else none
/-- x is None, x is True -/
def dIs : D → D → Option D
  | x, .none => some (.bool (isN x))
  | .bool a, .bool b => some (.bool (decide (a = b)))
  | _, _ => none
def dIsNot : D → D → Option D
  | x, .none => some (.bool (!isN x))
  | .bool a, .bool b => some (.bool (!decide (a = b)))
  | _, _ => none
/-- what is flat -/
def flatD : D → Bool
  | .none => true
  | .bool _ => true
  | .int _ => true
  | .str _ => true
  | _ => false
def dIn : D → D → Option D
  | x, .list ds => if SeqAt.shaped x && SeqAt.shaped (.list ds) then some (.bool (ds.any fun z => PyData.eqv z x)) else none
  | x, .tuple ds => if flatD x && ds.all flatD then some (.bool (ds.any fun z => PyData.eqv z x)) else none
  | .str x, .str y => if x.length = 1 then some (.bool (y.cps.toList.contains (x.cps.getD 0 0))) else none
  | x, .dict kvs => (keyOf x).map fun k => .bool (getK kvs k).isSome
  | _, _ => none
def dNotIn (x y : D) : Option D := (dIn x y).bind isB |>.map fun b => .bool (!b)
section
variable {X : Cx}
theorem fitsM_lt {a : Int} (h : fitsM a = true) : a.natAbs < 2 ^ 1000 := cl_iff.mp h
theorem od_add : OpD X (binaryOp .Add) dAdd := OpR.imp (OpR.or op_add (OpR.or op_add_str op_catA')) fun v u H Q ⟨x, y, z, h1, h2, e, k⟩ => by
  unfold dAdd at e
  split at e
  · cases e
    exact .inl ⟨_, _, h1.int, h2.int, k _ H (Same.refl H) (.int _)⟩
  · split at e
    · rename_i hl
      cases e
      exact .inr (.inl ⟨_, _, h1.str, h2.str, hl, k _ H (Same.refl H) (.str _)⟩)
    · cases e
  · split at e
    · rename_i hl
      cases e
      obtain ⟨p, xs, rfl, hp, r1⟩ := h1.tupleP
      obtain ⟨q, ys, rfl, hq, r2⟩ := h2.tupleP
      refine .inr (.inr ⟨p, q, xs, ys, rfl, rfl, hp.sq, hq.sq, by rw [r1.length, r2.length]; exact hl, fun h0 => ?_, fun _ h0 => ?_, fun _ _ t u ht hu => ?_⟩)
      · subst h0
        cases r1
        exact k _ H (Same.refl H) (.tup hq r2)
      · subst h0
        cases r2
        rw [List.append_nil] at k
        exact k _ H (Same.refl H) (.tup hp r1)
      · exact k _ _ (Same.new ht) (.tup (.of hu upd_same) ((r1.append r2).mono (.of_same (Same.new ht))))
    · cases e
  · cases e
theorem od_sub : OpD X (binaryOp .Sub) dSub := OpR.imp op_sub fun v u H Q ⟨x, y, z, h1, h2, e, k⟩ => by
  unfold dSub at e
  split at e
  · cases e
    exact ⟨_, _, h1.int, h2.int, k _ H (Same.refl H) (.int _)⟩
  · cases e
theorem od_mul : OpD X (binaryOp .Mult) dMul := OpR.imp op_mulW fun v u H Q ⟨x, y, z, h1, h2, e, k⟩ => by
  unfold dMul at e
  split at e
  · split at e
    · rename_i hc
      cases e
      obtain ⟨c1, c2⟩ := Bool.and_eq_true_iff.mp hc
      exact ⟨_, _, h1.int, h2.int, wide_mul (fitsM_lt c1) (fitsM_lt c2) (by decide) (by decide) (by decide), k _ H (Same.refl H) (.int _)⟩
    · cases e
  · cases e
theorem od_fdiv : OpD X (binaryOp .FloorDiv) dFdiv := OpR.imp op_fdivW fun v u H Q ⟨x, y, z, h1, h2, e, k⟩ => by
  unfold dFdiv at e
  split at e
  · split at e
    · rename_i hc
      cases e
      obtain ⟨c1, c2⟩ := Bool.and_eq_true_iff.mp hc
      exact ⟨_, _, h1.int, h2.int, wide_div (of_decide_eq_true c1) (fitsM_lt c2) (by decide) (by decide), k _ H (Same.refl H) (.int _)⟩
    · cases e
  · cases e
theorem od_mod : OpD X (binaryOp .Mod) dMod := OpR.imp op_mod fun v u H Q ⟨x, y, z, h1, h2, e, k⟩ => by
  unfold dMod at e
  split at e
  · split at e
    · rename_i hc
      cases e
      exact ⟨_, _, h1.int, h2.int, hc, k _ H (Same.refl H) (.int _)⟩
    · cases e
  · cases e
theorem op_powW : OpR X (binaryOp .Pow) (rI (fun i j => 0 ≤ j ∧ (Builtin.Int.intBits i : Int) * j ≤ 2 ^ 27) fun i j => .int (i ^ j.toNat)) := opI fun _ _ _ _ _ _ _ hc q => pow_int hc.1 hc.2 q
theorem od_pow : OpD X (binaryOp .Pow) dPow := OpR.imp op_powW fun v u H Q ⟨x, y, z, h1, h2, e, k⟩ => by
  unfold dPow at e
  split at e
  · split at e
    · rename_i a b hc
      cases e
      obtain ⟨c0, c3⟩ := Bool.and_eq_true_iff.mp hc
      obtain ⟨c1, c2⟩ := Bool.and_eq_true_iff.mp c0
      refine ⟨_, _, h1.int, h2.int, ⟨cl_iff.mp c1, ?_⟩, k _ H (Same.refl H) (.int _)⟩
      have hb : Builtin.Int.intBits a ≤ 1001 := by
        have h3 := PySem.Flt.log2_lt_of (by decide) (fitsM_lt c3)
        unfold Builtin.Int.intBits
        split <;> omega
      have h4 : (Builtin.Int.intBits a : Int) * b ≤ 1001 * 1000 := Int.mul_le_mul (by omega) (cl_iff.mp c2) (cl_iff.mp c1) (by decide)
      omega
    · cases e
  · cases e
def UnD (X : Cx) (f : Value → Sem Value) (g : D → Option D) : Prop := UnR X f fun v H Q => ∃ x z, RpW X.K H v x ∧ g x = some z ∧ ∀ w H', Same H H' → Rp X.K H' w z → Q w H'
theorem ud_neg : UnD X (unaryOp .USub) dNeg := UnR.imp un_neg fun v H Q ⟨x, z, h1, e, k⟩ => by
  unfold dNeg at e
  split at e
  · cases e
    exact ⟨_, h1.int, k _ H (Same.refl H) (.int _)⟩
  · cases e
theorem de_un {c : FC} {Γ : Env_} {op : UnaryOp} {g : D → Option D} {a : Expr} {ma : Option D} {pos : Pos} (ho : UnD X (unaryOp op) g) (ha : DE X c Γ a ma) : DE X c Γ (.UnaryOp op a pos) (ma.bind g) := fun d hd σ H Q E k => by
  obtain ⟨x, e1, e2⟩ := Option.bind_eq_some_iff.mp hd
  refine sE_of (pe_un ho (pe_s a)) ?_
  exact ha x e1 σ H _ E fun v H1 s1 r1 => ⟨x, d, .st r1, e2, fun w H3 s3 r3 => k w H3 (s1.trans s3) r3⟩
theorem shaped_noDict {d : D} (h : SeqAt.shaped d = true) : d.hasDict = false := PyData.hasDict_of_canLay d (SeqAt.canLay_of_shaped h)
theorem scal_of {K : Fr_} {H : Hp} {v u : V} {a b : D} (h1 : RpW K H v a) (h2 : RpW K H u b) (h : scalD a b = true) : scal v u = true ∧ decide (v = u) = PyData.eqv a b := by
  unfold scalD at h
  split at h
  · have e1 := h1.int
    have e2 := h2.int
    subst e1 e2
    exact ⟨rfl, by rw [dec_int]; simp [PyData.eqv]⟩
  · have e1 := h1.str
    have e2 := h2.str
    subst e1 e2
    exact ⟨rfl, by rw [dec_str]; simp [PyData.eqv]⟩
  · have e1 := h1.bool
    have e2 := h2.bool
    subst e1 e2
    exact ⟨rfl, by rw [dec_bl]; simp [PyData.eqv]⟩
  · cases h
theorem od_eq (hu : X.A.units + 64 < cLine) : OpD X (compareOp .Eq) dEq := OpR.imp (OpR.or op_eq (op_eqD hu)) fun v u H Q ⟨x, y, z, h1, h2, e, k⟩ => by
  unfold dEq at e
  split at e
  · rename_i hc
    cases e
    cases hs : scalD x y with
    | true =>
      obtain ⟨g1, g2⟩ := scal_of h1 h2 hs
      exact .inl ⟨g1, by rw [g2]; exact k _ H (Same.refl H) (.bl _)⟩
    | false =>
      rw [hs, Bool.false_or] at hc
      obtain ⟨c1, c2⟩ := Bool.and_eq_true_iff.mp hc
      exact .inr ⟨x, y, h1.dp (shaped_noDict c1), h2.dp (shaped_noDict c2), c1, c2, k _ H (Same.refl H) (.bl _)⟩
  · cases e
theorem od_ne (hu : X.A.units + 64 < cLine) : OpD X (compareOp .NotEq) dNe := OpR.imp (OpR.or op_ne (op_neD hu)) fun v u H Q ⟨x, y, z, h1, h2, e, k⟩ => by
  unfold dNe at e
  split at e
  · rename_i hc
    cases e
    cases hs : scalD x y with
    | true =>
      obtain ⟨g1, g2⟩ := scal_of h1 h2 hs
      exact .inl ⟨g1, by rw [g2]; exact k _ H (Same.refl H) (.bl _)⟩
    | false =>
      rw [hs, Bool.false_or] at hc
      obtain ⟨c1, c2⟩ := Bool.and_eq_true_iff.mp hc
      exact .inr ⟨x, y, h1.dp (shaped_noDict c1), h2.dp (shaped_noDict c2), c1, c2, k _ H (Same.refl H) (.bl _)⟩
  · cases e
theorem isN_ne {d : D} (h : isN d = false) : d ≠ .none := fun e => by
  subst e
  cases h
theorem ordOk_iff {a b : D} (h : ordOk a b = true) : PySem.W.alike a b = true ∧ a ≠ .none ∧ a.depth ≤ 64 ∧ a.hasDict = false ∧ b.hasDict = false := by
  obtain ⟨h1, h2⟩ := Bool.and_eq_true_iff.mp h
  obtain ⟨h3, h4⟩ := Bool.and_eq_true_iff.mp h2
  obtain ⟨h5, h6⟩ := Bool.and_eq_true_iff.mp h4
  obtain ⟨h7, h8⟩ := Bool.and_eq_true_iff.mp h6
  exact ⟨h1, isN_ne (by simpa using h3), of_decide_eq_true h5, by simpa using h7, by simpa using h8⟩
theorem od_ord {op : CmpOp} {g : D → D → Bool} (hu : X.A.units + 64 < cLine)
    (hg : ∀ {s : Shared} {a b : Value} {da db : PyData} {as bs : List Addr} {Q : Value → Shared → Prop}, Reads s.heap a da as → Reads s.heap b db bs → PySem.W.alike da db = true → da ≠ .none → X.A.units + min da.depth db.depth < cLine → Q (.bool (g da db)) s → wpAny (model X.prog X.w) X.A (compareOp op a b) Q X.xe s) :
    OpD X (compareOp op) fun a b => if ordOk a b then some (.bool (g a b)) else none := by
  intro pins s σ H x y v u Q I rx ry ⟨dx, dy, z, h1, h2, e0, k⟩
  have e : (if ordOk dx dy then some (PyData.bool (g dx dy)) else none) = some z := e0
  split at e
  · rename_i hc
    cases e
    obtain ⟨c1, c2, c3, c4, c5⟩ := ordOk_iff hc
    obtain ⟨as, r1⟩ := Dp.reads I dx x v (h1.dp c4) rx
    obtain ⟨bs, r2⟩ := Dp.reads I dy y u (h2.dp c5) ry
    exact hg r1 r2 c1 c2 (by omega) ⟨.bl _, H, I, rfl, k _ H (Same.refl H) (.bl _)⟩
  · cases e
theorem od_lt (hu : X.A.units + 64 < cLine) : OpD X (compareOp .Lt) dLt := od_ord (g := fun a b => PySem.W.dataLt a b) hu PySem.W.lt_data
theorem od_le (hu : X.A.units + 64 < cLine) : OpD X (compareOp .LtE) dLe := od_ord (g := fun a b => !PySem.W.dataLt b a) hu PySem.W.le_data
theorem od_gt (hu : X.A.units + 64 < cLine) : OpD X (compareOp .Gt) dGt := od_ord (g := fun a b => PySem.W.dataLt b a) hu PySem.W.gt_data
theorem od_ge (hu : X.A.units + 64 < cLine) : OpD X (compareOp .GtE) dGe := od_ord (g := fun a b => !PySem.W.dataLt a b) hu PySem.W.ge_data
theorem RpW.isN {K : Fr_} {H : Hp} {v : V} {d : D} (h : RpW K H v d) : decide (v = .non) = DL.isN d := by
  cases h with
  | st h => cases h <;> rfl
  | ow h r => rfl
  | od h r => rfl
theorem od_is : OpD X (compareOp .Is) dIs := OpR.imp (OpR.or op_isN op_isBl) fun v u H Q ⟨x, y, z, h1, h2, e, k⟩ => by
  unfold dIs at e
  split at e
  · cases e
    refine .inl ⟨h2.none_, ?_⟩
    rw [h1.isN]
    exact k _ H (Same.refl H) (.bl _)
  · cases e
    exact .inr ⟨_, _, h1.bool, h2.bool, k _ H (Same.refl H) (.bl _)⟩
  · cases e
theorem od_isnot : OpD X (compareOp .IsNot) dIsNot := OpR.imp (OpR.or op_notN op_notBl) fun v u H Q ⟨x, y, z, h1, h2, e, k⟩ => by
  unfold dIsNot at e
  split at e
  · cases e
    refine .inl ⟨h2.none_, ?_⟩
    rw [h1.isN]
    exact k _ H (Same.refl H) (.bl _)
  · cases e
    exact .inr ⟨_, _, h1.bool, h2.bool, k _ H (Same.refl H) (.bl _)⟩
  · cases e
theorem flat_rp {K : Fr_} {H : Hp} {v : V} {d : D} (h : Rp K H v d) (f : flatD d = true) : flatV v = true := by
  cases h <;> first | rfl | cases f
theorem eqV_eqv {K : Fr_} {H : Hp} {v u : V} {d e : D} (h : Rp K H v d) (h' : Rp K H u e) (f : flatD d = true) (f' : flatD e = true) : eqV v u = PyData.eqv d e := by
  cases h <;> first
    | (cases f; done)
    | (cases h' <;> first
        | (cases f'; done)
        | rfl
        | (simp [eqV, PyData.eqv, b2i] <;> done)
        | (rename_i a b; cases a <;> cases b <;> rfl)
        | (rename_i a b; cases a <;> simp [eqV, PyData.eqv, b2i])
        | (rename_i a b; cases b <;> simp [eqV, PyData.eqv, b2i]))
theorem RpA.flat {K : Fr_} {H : Hp} : ∀ {vs : List V} {ds : List D}, RpA K H vs ds → ds.all flatD = true → vs.all flatV = true
  | _, _, .nil, _ => rfl
  | _, _, .cons h r, f => by
    rw [List.all_cons, Bool.and_eq_true] at f ⊢
    exact ⟨flat_rp h f.1, RpA.flat r f.2⟩
theorem RpA.inV {K : Fr_} {H : Hp} {v : V} {d : D} (h : Rp K H v d) (f : flatD d = true) : ∀ {vs : List V} {ds : List D}, RpA K H vs ds → ds.all flatD = true → L2.inV v vs = ds.any fun z => PyData.eqv z d
  | _, _, .nil, _ => rfl
  | _, _, .cons h' r, g => by
    rw [List.all_cons, Bool.and_eq_true] at g
    have e2 := RpA.inV h f r g.2
    unfold L2.inV at e2 ⊢
    rw [List.any_cons, List.any_cons, eqV_eqv h' h g.1 f, e2]
/-! in, not in -/
theorem one_sign {x : Str} (h : x.length = 1) : x = ⟨#[x.cps.getD 0 0]⟩ := by
  obtain ⟨⟨l⟩⟩ := x
  have h' : l.length = 1 := h
  match l, h' with
  | [a], _ => rfl
theorem op_in_dK (hu : X.A.units + 65 < cLine) : OpR X (compareOp .In) (fun x y H Q => ∃ (a : Addr) (ws : List (Key × V)) (k : Key), x = kV k ∧ y = .ref a ∧ Rd H a (.dK ws) ∧ Q (.bl (valV ws k).isSome) H) := fun pins s σ H x y v u Q I rx ry ⟨a, ws, k, e1, e2, hd, q⟩ => by
  subst e1 e2
  obtain rfl : u = Value.ref a := ry
  exact d_in (by omega) I (.inl ⟨ws, k, hd, rfl, rfl⟩) rx fun s' I' => ⟨.bl _, H, I', rfl, q⟩
theorem op_notIn_dK (hu : X.A.units + 65 < cLine) : OpR X (compareOp .NotIn) (fun x y H Q => ∃ (a : Addr) (ws : List (Key × V)) (k : Key), x = kV k ∧ y = .ref a ∧ Rd H a (.dK ws) ∧ Q (.bl (!(valV ws k).isSome)) H) := fun pins s σ H x y v u Q I rx ry ⟨a, ws, k, e1, e2, hd, q⟩ => by
  subst e1 e2
  obtain rfl : u = Value.ref a := ry
  exact d_notIn (by omega) I (.inl ⟨ws, k, hd, rfl, rfl⟩) rx fun s' I' => ⟨.bl _, H, I', rfl, q⟩
theorem RpK.has {K : Fr_} {H : Hp} {ws : List (Key × V)} {kvs : List (D × D)} (r : RpK K H ws kvs) (k : Key) : (valV ws k).isSome = (getK kvs k).isSome := by
  rcases r.get k with ⟨h1, h2⟩ | ⟨v, d, h1, h2, _⟩ <;> rw [h1, h2] <;> rfl
theorem od_in (hu : X.A.units + 65 < cLine) : OpD X (compareOp .In) dIn := OpR.imp (OpR.or op_in_seq (OpR.or (op_inD hu) (OpR.or op_in_sign (op_in_dK hu)))) fun v u H Q ⟨x, y, z, h1, h2, e, k⟩ => by
  unfold dIn at e
  split at e
  · split at e
    · rename_i hc
      cases e
      obtain ⟨c1, c2⟩ := Bool.and_eq_true_iff.mp hc
      exact .inr (.inl ⟨_, _, h1.dp (shaped_noDict c1), h2.dp (shaped_noDict c2), c1, c2, k _ H (Same.refl H) (.bl _)⟩)
    · cases e
  · split at e
    · rename_i hc
      cases e
      obtain ⟨c1, c2⟩ := Bool.and_eq_true_iff.mp hc
      cases h1 with
      | ow h r => cases c1
      | od h r => cases c1
      | st h1 =>
        obtain ⟨p, xs, rfl, hp, r⟩ := h2.tuple
        refine .inl ⟨p, xs, rfl, .inr hp, flat_rp h1 c1, r.flat c2, ?_⟩
        rw [if_neg Bool.false_ne_true, RpA.inV h1 c1 r c2]
        exact k _ H (Same.refl H) (.bl _)
    · cases e
  · split at e
    · rename_i hc
      cases e
      refine .inr (.inr (.inl ⟨_, _, h1.str.trans (congrArg V.str (one_sign hc)), h2.str, ?_⟩))
      rw [show decide (_ ∈ _) = List.contains _ _ from (List.elem_eq_mem _ _).symm]
      exact k _ H (Same.refl H) (.bl _)
    · cases e
  · obtain ⟨q, g1, g2⟩ := Option.map_eq_some_iff.mp e
    cases g2
    obtain ⟨a, ws, rfl, hd, r⟩ := h2.dict
    refine .inr (.inr (.inr ⟨a, ws, q, h1.key g1, rfl, hd, ?_⟩))
    rw [r.has q]
    exact k _ H (Same.refl H) (.bl _)
  · cases e
theorem od_notin (hu : X.A.units + 65 < cLine) : OpD X (compareOp .NotIn) dNotIn := OpR.imp (OpR.or op_notIn_seq (OpR.or (op_notInD hu) (OpR.or op_notIn_sign (op_notIn_dK hu)))) fun v u H Q ⟨x, y, z, h1, h2, e0, k⟩ => by
  obtain ⟨b, e1, rfl⟩ := Option.map_eq_some_iff.mp e0
  obtain ⟨z', e, e3⟩ := Option.bind_eq_some_iff.mp e1
  have ez := isB_eq e3
  subst ez
  unfold dIn at e
  split at e
  · split at e
    · rename_i hc
      cases e
      obtain ⟨c1, c2⟩ := Bool.and_eq_true_iff.mp hc
      exact .inr (.inl ⟨_, _, h1.dp (shaped_noDict c1), h2.dp (shaped_noDict c2), c1, c2, k _ H (Same.refl H) (.bl _)⟩)
    · cases e
  · split at e
    · rename_i hc
      cases e
      obtain ⟨c1, c2⟩ := Bool.and_eq_true_iff.mp hc
      cases h1 with
      | ow h r => cases c1
      | od h r => cases c1
      | st h1 =>
        obtain ⟨p, xs, rfl, hp, r⟩ := h2.tuple
        refine .inl ⟨p, xs, rfl, .inr hp, flat_rp h1 c1, r.flat c2, ?_⟩
        rw [if_pos rfl, RpA.inV h1 c1 r c2]
        exact k _ H (Same.refl H) (.bl _)
    · cases e
  · split at e
    · rename_i hc
      cases e
      refine .inr (.inr (.inl ⟨_, _, h1.str.trans (congrArg V.str (one_sign hc)), h2.str, ?_⟩))
      rw [show decide (_ ∈ _) = List.contains _ _ from (List.elem_eq_mem _ _).symm]
      exact k _ H (Same.refl H) (.bl _)
    · cases e
  · obtain ⟨q, g1, g2⟩ := Option.map_eq_some_iff.mp e
    cases g2
    obtain ⟨a, ws, rfl, hd, r⟩ := h2.dict
    refine .inr (.inr (.inr ⟨a, ws, q, h1.key g1, rfl, hd, ?_⟩))
    rw [r.has q]
    exact k _ H (Same.refl H) (.bl _)
  · cases e
end
end DL

set_option Elab.async false
set_option linter.all false
set_option maxRecDepth 100000
set_option maxHeartbeats 2000000
set_option autoImplicit false
/-! ### sorted rows that are alike up to their first difference -/
namespace DL
open PySem PySem.W PySem.Calls PyProof.Rows
mutual
theorem reads_one {h : Heap} : ∀ (d d' : PyData) (v : Value) (as as' : List Addr), d.hasDict = false → Reads h v d as → Reads h v d' as' → d = d'
  | .none, _, _, _, _, _, r, r' => by cases r; cases r'; rfl
  | .bool _, _, _, _, _, _, r, r' => by cases r; cases r'; rfl
  | .int _, _, _, _, _, _, r, r' => by cases r; cases r'; rfl
  | .str _, _, _, _, _, _, r, r' => by cases r; cases r'; rfl
  | .list xs, d', _, _, _, n, r, r' => by
    cases r with
    | list h1 h2 h3 h4 =>
      cases r' with
      | list k1 k2 k3 k4 =>
        rw [h1] at k1; cases k1
        rw [h3] at k3; cases k3
        rw [reads_ones xs _ _ _ _ (by simpa [PyData.hasDict] using n) h4 k4]
      | tuple k1 k2 k3 k4 =>
        rw [h1] at k1; cases k1
        rw [h2] at k2; exact absurd k2 (by decide)
      | dict k1 k2 k3 k4 k5 =>
        rw [h1] at k1; cases k1
        rw [h2] at k2; exact absurd k2 (by decide)
  | .tuple xs, d', _, _, _, n, r, r' => by
    cases r with
    | tuple h1 h2 h3 h4 =>
      cases r' with
      | tuple k1 k2 k3 k4 =>
        rw [h1] at k1; cases k1
        rw [h3] at k3; cases k3
        rw [reads_ones xs _ _ _ _ (by simpa [PyData.hasDict] using n) h4 k4]
      | list k1 k2 k3 k4 =>
        rw [h1] at k1; cases k1
        rw [h2] at k2; exact absurd k2 (by decide)
      | dict k1 k2 k3 k4 k5 =>
        rw [h1] at k1; cases k1
        rw [h2] at k2; exact absurd k2 (by decide)
  | .dict _, _, _, _, _, n, _, _ => by simp [PyData.hasDict] at n
theorem reads_ones {h : Heap} : ∀ (xs ys : List PyData) (vs : List Value) (as as' : List Addr), PyData.hasDictAll xs = false → ReadsAll h vs xs as → ReadsAll h vs ys as' → xs = ys
  | [], _, _, _, _, _, r, r' => by cases r; cases r'; rfl
  | x :: xs, [], _, _, _, _, r, r' => by cases r'; cases r
  | x :: xs, y :: ys, _, _, _, n, r, r' => by
    simp [PyData.hasDictAll] at n
    cases r with
    | cons r1 r2 =>
      cases r' with
      | cons q1 q2 => rw [reads_one x y _ _ _ n.1 r1 q1, reads_ones xs ys _ _ _ n.2 r2 q2]
end
/-- alike up to the first difference -/
def cmpAll : List PyData → List PyData → Bool
  | x :: xs, y :: ys => alike x y && (!PyData.eqv x y || cmpAll xs ys)
  | _, _ => true
def cmpT : PyData → PyData → Bool
  | .tuple (x :: xs), .tuple (y :: ys) => cmpAll (x :: xs) (y :: ys)
  | _, _ => false
section
variable {prog : Program} {w : World} {A : Around} {s : Shared}
theorem katLex_cmp {b fin : Bool} {Q : Bool → Shared → Prop} : ∀ (xs ys : List PyData) (i : Nat) (vs ws : List Value) (as bs : List Addr), ReadsAll s.heap vs xs as → ReadsAll s.heap ws ys bs → cmpAll xs ys = true →
    A.units + min (PyData.depthAll xs) (PyData.depthAll ys) < cLine → (b = true → i = 0 → ∀ x r t, xs = x :: r → x ≠ .tuple t) → fin = decide (xs.length < ys.length) → Q (PyProof.Rows.lexLt itemOrd (keyToksAll xs) (keyToksAll ys)) s → KatLex prog w A b fin Q (vs.zip ws) i s
  | [], ys, i, _, _, as, bs, ra, rb, _, hu, hb, hf, hq => katLex_alike [] ys i _ _ as bs ra rb (by cases ys <;> rfl) hu hb hf hq
  | x :: xs, [], i, _, _, as, bs, ra, rb, _, hu, hb, hf, hq => katLex_alike (x :: xs) [] i _ _ as bs ra rb rfl hu hb hf hq
  | x :: xs, y :: ys, i, _, _, _, _, ra, rb, h, hu, hb, hf, hq => by
    obtain ⟨h1, h2⟩ := Bool.and_eq_true_iff.mp h
    have hf' : fin = decide (xs.length < ys.length) := by
      rw [hf]
      simp only [List.length_cons, Nat.add_lt_add_iff_right]
    cases ra with
    | cons r rs =>
      cases rb with
      | cons r' rs' =>
        rw [List.zip_cons_cons]
        refine kat_cons (eqAt_alike x y A s _ _ _ _ r r' h1 (SeqAt.room_head hu) prog w _ _ ?_)
        cases hx : PyData.eqv x y with
        | true =>
          rw [hx] at h2
          rw [dataLt_all_yes h1 hx] at hq
          exact kat_yes (katLex_cmp xs ys (i + 1) _ _ _ _ rs rs' (by simpa using h2) (SeqAt.room_tail hu) (fun _ hi => absurd hi (Nat.succ_ne_zero i)) hf' hq)
        | false =>
          rw [dataLt_all_no h1 hx] at hq
          refine kat_no (oneLt_alike (fun hbi t => ?_) r r' h1 (ne_none_of h1 hx) (SeqAt.room_head hu) hq)
          rw [Bool.and_eq_true] at hbi
          exact hb hbi.1 (by simpa using hbi.2) x xs t rfl
theorem kind_some {h : Heap} {ds : List PyData} (hnd : ∀ d ∈ ds, d.hasDict = false) {v : Value} {d : PyData} {as : List Addr} (hd : d ∈ ds) (r : Reads h v d as) : (dataKind h ds).keyOf v = some (keyToks d) := by
  have q : ∃ d, d ∈ ds ∧ ∃ as, Reads h v d as := ⟨d, hd, as, r⟩
  have e : (dataKind h ds).keyOf v = some (keyToks q.choose) := by
    show (open Classical in if q : ∃ d, d ∈ ds ∧ ∃ as, Reads h v d as then some (keyToks q.choose) else none) = _
    rw [dif_pos q]
  obtain ⟨h1, as', h2⟩ := q.choose_spec
  rw [e, reads_one _ _ _ _ _ (hnd _ h1) h2 r]
/-- all are tuples that can be compared -/
def AllCmp (ds : List PyData) : Prop := ∀ d ∈ ds, (∃ x r, d = .tuple (x :: r)) ∧ d.hasDict = false ∧ ∀ d' ∈ ds, cmpT d d' = true
theorem sorts_cmp {vs : List Value} {ds : List PyData} (e : EachIs (fun v d => ∃ as, Reads s.heap v d as) vs ds) (hal : AllCmp ds) (hu : ∀ d, d ∈ ds → A.units + d.depth < cLine) : SortsAt prog w A s (dataKind s.heap ds) vs := by
  have room : ∀ {d d' : PyData}, d ∈ ds → A.units + min d.depth d'.depth < cLine := fun {d d'} hd => Nat.lt_of_le_of_lt (Nat.add_le_add_left (Nat.min_le_left _ _) _) (hu d hd)
  have hnd : ∀ d ∈ ds, d.hasDict = false := fun d hd => (hal d hd).2.1
  refine ⟨fun v hv => ?_, ?_⟩
  · obtain ⟨d, hd, as, r⟩ := e.left v hv
    exact ⟨_, kind_some hnd hd r⟩
  · cases ds with
    | nil =>
      cases e
      exact ⟨general', fun E x y a b Q ha _ _ => (by
        obtain ⟨d, _, hd, _⟩ := dataKind_inv ha
        exact absurd hd (by simp)), fun h2 => absurd h2 (by simp)⟩
    | cons d₀ ds₀ =>
      obtain ⟨x₀, r₀, e₀⟩ := (hal d₀ (List.mem_cons_self ..)).1
      have hfirst : ∀ x r, PyData.tuple (x :: r) ∈ d₀ :: ds₀ → alike x x₀ = true := by
        intro x r hm
        have q := (hal _ hm).2.2 d₀ (List.mem_cons_self ..)
        rw [e₀] at q
        exact (Bool.and_eq_true_iff.mp q).1
      refine ⟨tuples' (dataType x₀ != Value.type "tuple"), ?_, fun h2 E Q hq => ?_⟩
      · intro E x y a b Q ha hb hq
        obtain ⟨d, as, hd, ra, rfl⟩ := dataKind_inv ha
        obtain ⟨d', as', hd', rb, rfl⟩ := dataKind_inv hb
        have hdd := (hal d hd).2.2 d' hd'
        have hroom := room (d' := d') hd
        obtain ⟨x1, r1, rfl⟩ := (hal d hd).1
        obtain ⟨x2, r2, rfl⟩ := (hal d' hd').1
        have hq' : Q (dataLt (.tuple (x1 :: r1)) (.tuple (x2 :: r2))) s := hq
        rw [dataLt_tuple] at hq'
        cases ra with
        | @tuple l o xs n _ _ h1 h2 h3 h4 =>
          cases rb with
          | @tuple l' o' xs' n' _ _ k1 k2 k3 k4 =>
            have n1 : xs.size = (x1 :: r1).length := by simpa using SeqAt.ReadsAll.length _ _ _ h4
            have n2 : xs'.size = (x2 :: r2).length := by simpa using SeqAt.ReadsAll.length _ _ _ k4
            refine kat_lt h1 h3 k1 k3 (katLex_cmp (x1 :: r1) (x2 :: r2) 0 _ _ _ _ h4 k4 hdd (by have q := SeqAt.room_in hroom; omega) (fun hb _ x r t ex => ?_) (by rw [n1, n2]) hq')
            obtain ⟨rfl, rfl⟩ := List.cons.inj ex
            have q := dataType_alike (hfirst _ _ hd)
            rw [← q] at hb
            exact dataType_tuple hb t
      · obtain ⟨fs, t1, t2, t3⟩ := each_katTups e fun d hd => (hal d hd).1
        refine kat_kind (T := dataType x₀) t1 (by omega) (fun f hf => ?_) (beq_self_eq_true _) hq
        obtain ⟨x, r, as, m1, m2⟩ := t3 f hf
        rw [← dataType_alike (hfirst x r m1)]
        exact looks_reads m2
theorem keys_cmp {h : Heap} {ds : List PyData} (hnd : ∀ d ∈ ds, d.hasDict = false) : ∀ {vs : List Value} {es : List PyData}, (∀ d ∈ es, d ∈ ds) → EachIs (fun v d => ∃ as, Reads h v d as) vs es → EachIs (fun v d => (dataKind h ds).keyOf v = some (keyToks d)) vs es
  | _, _, _, .nil => .nil
  | _, _, hs, .cons ⟨as, r⟩ t => .cons (kind_some hnd (hs _ List.mem_cons_self) r) (keys_cmp hnd (fun d hd => hs d (List.mem_cons_of_mem _ hd)) t)
/-- sorted(xs) of such rows -/
theorem sorted_cmp {E : Value → Shared → Prop} {l : Addr} {R : Value → PyData → Prop} {vs : List Value} {bs : List PyData} {Q : Value → Shared → Prop} (hl : s.heap.IsList l vs.toArray) (e : EachIs R vs bs) (er : EachIs (fun v b => ∃ as, Reads s.heap v b as) vs bs) (hal : AllCmp bs) (hL : bs.length ≤ sizeLine)
    (hu : ∀ b, b ∈ bs → A.units + 2 + b.depth < cLine) (h : ∀ out, out.length = bs.length → EachIs R out (bs.mergeSort (dataLe false fun d => d)) → Q (.ref (s.heap.objs.size + 1)) { s with heap := sortedAll s.heap vs (List.toArray out) }) :
    wpAny (model prog w) A (call (.builtin "sorted") [.ref l]) Q E s := by
  have er' : EachIs (fun v b => ∃ as, Reads (sortingHeap (copyHeap s.heap vs) (s.heap.objs.size + 1) vs) v b as) vs bs := er.mono fun _ _ ⟨as, r⟩ => ⟨as, PyProof.Rows.Reads.keeps (fun _ _ => sorting_copy_old) r⟩
  refine sorted_vals hl (sorts_cmp (s := { s with heap := sortingHeap (copyHeap s.heap vs) (s.heap.objs.size + 1) vs }) er' hal hu) (by rw [e.length]; exact hL)
    (h _ (by rw [sortVals_length false rfl]; exact e.length) ?_)
  exact sortVals_each (κ := dataKind _ bs) (fun b => keyToks b) e (keys_cmp (fun d hd => (hal d hd).2.1) (fun d hd => hd) er')
end
end DL

set_option Elab.async false
set_option linter.all false
set_option maxRecDepth 100000
set_option maxHeartbeats 2000000
set_option autoImplicit false
/-! ### sorted of whatever is collected -/
namespace DL
open PySem PySem.W PySem.Calls PyProof.Rows
section
variable {prog : Program} {w : World}
/-- the items of v, taken one behind the other, are vs; what was there stays -/
def Collects (prog : Program) (w : World) (A : Around) (s : Shared) (v : Value) (vs : List Value) : Prop :=
  ∀ (Q : List Value → Shared → Prop) (E : Value → Shared → Prop), (∀ (h' : Heap) (tk : Nat), (∀ b o, s.heap.get? b = some o → h'.get? b = some o) → Q vs { s with heap := h', toks := tk }) → wpAny (model prog w) A (collect v) Q E s
theorem collects_seq {A : Around} {s : Shared} {l : Addr} {T : String} {o : Obj} {items : Array Value} {n : Nat} (hT : T = "list" ∨ T = "tuple") (ho : s.heap.get? l = some o) (hc : o.cls = .type T) (hd : o.data = .seq items n) (hsz : items.size ≤ sizeLine) : Collects prog w A s (.ref l) items.toList :=
  fun Q E h => wpAny_collect_seq (prog := prog) (w := w) (A := A) (E := E) (Q := Q) l hT ho hc hd (fun h' k => h h' s.toks k) hsz
/-- the heap behind sorted(..) -/
def sortedOver (h : Heap) (vs : List Value) (out : Array Value) : Heap := sortedHeap (h.push (seqObj "list" vs.toArray 0)) h.objs.size vs out
theorem sortedOver_old {h : Heap} {vs : List Value} {out : Array Value} {b : Addr} {o : Obj} (hb : h.get? b = some o) : (sortedOver h vs out).get? b = some o := by
  have hlt : b < h.objs.size := Heap.lt_size hb
  unfold sortedOver
  rw [sortedHeap_old (Nat.ne_of_lt hlt) (by rw [size_push']; exact Nat.lt_succ_of_lt hlt)]
  exact Heap.get?_push_of_some _ hb
theorem sortedOver_at (h : Heap) (vs : List Value) (out : Array Value) : ∃ e, (sortedOver h vs out).get? h.objs.size = some (seqObj "list" out e) :=
  sortedHeap_at (n := 0) (Heap.get?_push_size _ rfl)
theorem sortingOver_old {h : Heap} {vs : List Value} {b : Addr} {o : Obj} (hb : h.get? b = some o) : (sortingHeap (h.push (seqObj "list" vs.toArray 0)) h.objs.size vs).get? b = some o :=
  sortingHeap_old (Nat.ne_of_lt (Heap.lt_size hb)) (Heap.get?_push_of_some _ hb)
theorem sorted_gen {A : Around} {E : Value → Shared → Prop} {s : Shared} {l : Addr} {vs : List Value} {Q : Value → Shared → Prop} {κ : Heap → PyProof.Rows.KeyKind} (hc : Collects prog w A.in1 s (.ref l) vs) (hL : vs.length ≤ sizeLine)
    (S : ∀ (h' : Heap) (tk : Nat), (∀ b o, s.heap.get? b = some o → h'.get? b = some o) → SortsAt prog w A.in1.in1 { s with heap := sortingHeap (h'.push (seqObj "list" vs.toArray 0)) h'.objs.size vs, toks := tk } (κ h') vs)
    (h : ∀ (h' : Heap) (tk : Nat), (∀ b o, s.heap.get? b = some o → h'.get? b = some o) → Q (.ref h'.objs.size) { s with heap := sortedOver h' vs (sortVals (κ h') false vs vs).toArray, toks := tk }) :
    wpAny (model prog w) A (call (.builtin "sorted") [.ref l]) Q E s := by
  refine call_function_entry_kw kind_sorted plain_sorted entry_sorted (args_sorted1 _) ?_
  unfold Builtin.«sorted»
  refine wpAny_bind (m := checkCount "sorted" 1 1 _) (wpAny_pure ?_)
  refine wpAny_bind (hc _ _ fun h' tk hk => ?_)
  refine wpAny_bind (wpAny_newList ?_ hL)
  refine wpAny_bind (wpAny_holding (wpAny_call_entry_kw slot_list_sort ⟨_, Heap.get?_push_size _ rfl, rfl⟩ entry_list_sort ?body (args_list_sort _)))
  case body =>
    show wpAny (model prog w) A.in1.in1 (Builtin.«list.sort» ⟨[.ref h'.objs.size], []⟩) _ _ _
    refine list_sort_vals (s := { s with heap := h'.push (seqObj "list" vs.toArray 0), toks := tk }) (n := 0) (Heap.get?_push_size _ rfl) (S h' tk hk) hL ?_
    exact ⟨_, rfl, wpAny_pure ⟨_, rfl, h h' tk hk⟩⟩
end
/-! ### sorted, the items gathered in some sequence -/
section
variable {prog : Program} {w : World}
def CollectsP (prog : Program) (w : World) (A : Around) (s : Shared) (v : Value) (Pv : List Value → Prop) : Prop :=
  ∀ (Q : List Value → Shared → Prop) (E : Value → Shared → Prop), (∀ (s' : Shared) (vs : List Value), (∀ b o, s.heap.get? b = some o → s'.heap.get? b = some o) → s'.gens = s.gens → s'.os = s.os → Pv vs → Q vs s') → wpAny (model prog w) A (collect v) Q E s
theorem sorted_genP {A : Around} {E : Value → Shared → Prop} {s : Shared} {l : Addr} {Pv : List Value → Prop} {Q : Value → Shared → Prop} {κ : Heap → List Value → KeyKind} (hc : CollectsP prog w A.in1 s (.ref l) Pv) (hL : ∀ vs, Pv vs → vs.length ≤ sizeLine)
    (S : ∀ (s' : Shared) (vs : List Value), Pv vs → SortsAt prog w A.in1.in1 { s' with heap := sortingHeap (s'.heap.push (seqObj "list" vs.toArray 0)) s'.heap.objs.size vs } (κ s'.heap vs) vs)
    (h : ∀ (s' : Shared) (vs : List Value), (∀ b o, s.heap.get? b = some o → s'.heap.get? b = some o) → s'.gens = s.gens → s'.os = s.os → Pv vs → Q (.ref s'.heap.objs.size) { s' with heap := sortedOver s'.heap vs (sortVals (κ s'.heap vs) false vs vs).toArray }) :
    wpAny (model prog w) A (call (.builtin "sorted") [.ref l]) Q E s := by
  refine call_function_entry_kw kind_sorted plain_sorted entry_sorted (args_sorted1 _) ?_
  unfold Builtin.«sorted»
  refine wpAny_bind (m := checkCount "sorted" 1 1 _) (wpAny_pure ?_)
  refine wpAny_bind (hc _ _ fun s' vs hk hg ho hp => ?_)
  refine wpAny_bind (wpAny_newList ?_ (hL vs hp))
  refine wpAny_bind (wpAny_holding (wpAny_call_entry_kw slot_list_sort ⟨_, Heap.get?_push_size _ rfl, rfl⟩ entry_list_sort ?body (args_list_sort _)))
  case body =>
    show wpAny (model prog w) A.in1.in1 (Builtin.«list.sort» ⟨[.ref s'.heap.objs.size], []⟩) _ _ _
    refine list_sort_vals (s := { s' with heap := s'.heap.push (seqObj "list" vs.toArray 0) }) (n := 0) (Heap.get?_push_size _ rfl) (S s' vs hp) (hL vs hp) ?_
    exact ⟨_, rfl, wpAny_pure ⟨_, rfl, h s' vs hk hg ho hp⟩⟩
end
end DL

set_option Elab.async false
set_option linter.all false
set_option maxRecDepth 100000
set_option maxHeartbeats 2000000
set_option autoImplicit false
namespace DL
open PySem PySem.Spec PyProof.Rows L2
theorem RpWA.one {K : Fr_} {H : Hp} {vs : List V} {d : D} (h : RpWA K H vs [d]) : ∃ v, vs = [v] ∧ RpW K H v d := by
  cases h with | cons h r => cases r; exact ⟨_, rfl, h⟩
theorem RpWA.two {K : Fr_} {H : Hp} {vs : List V} {d e : D} (h : RpWA K H vs [d, e]) : ∃ v u, vs = [v, u] ∧ RpW K H v d ∧ RpW K H u e := by
  cases h with | cons h r => cases r with | cons h2 r => cases r; exact ⟨_, _, rfl, h, h2⟩
theorem RpWA.three {K : Fr_} {H : Hp} {vs : List V} {d e f : D} (h : RpWA K H vs [d, e, f]) : ∃ v u w, vs = [v, u, w] ∧ RpW K H v d ∧ RpW K H u e ∧ RpW K H w f := by
  cases h with | cons h r => cases r with | cons h2 r => cases r with | cons h3 r => cases r; exact ⟨_, _, _, rfl, h, h2, h3⟩
/-! len -/
def dLen : List D → Option D
  | [.list ds] => some (.int (ds.length : Int))
  | [.tuple ds] => some (.int (ds.length : Int))
  | [.str s] => if s.length ≤ sizeLine then some (.int (s.length : Int)) else none
  | [.dict kvs] => some (.int (kvs.length : Int))
  | _ => none
/-! max, min -/
/-- all can be compared -/
def allAlike (ds : List D) : Bool := ds.all fun x => !isN x && (decide (x.depth ≤ 64) && (!x.hasDict && ds.all fun y => PySem.W.alike x y))
def dMax : List D → Option D
  | [.int a, .int b] => some (.int (max a b))
  | [.int a, .int b, .int c] => some (.int (max (max a b) c))
  | [.list (x :: xs)] => if allAlike (x :: xs) then some (PySem.W.maxD x xs) else none
  | [.tuple (x :: xs)] => if allAlike (x :: xs) then some (PySem.W.maxD x xs) else none
  | _ => none
def dMin : List D → Option D
  | [.int a, .int b] => some (.int (min a b))
  | [.int a, .int b, .int c] => some (.int (min (min a b) c))
  | [.list (x :: xs)] => if allAlike (x :: xs) then some (PySem.W.minD x xs) else none
  | [.tuple (x :: xs)] => if allAlike (x :: xs) then some (PySem.W.minD x xs) else none
  | _ => none
def dSum : List D → Option D
  | [.list ds] => (intsD ds).map fun ns => .int ns.sum
  | _ => none
def boolsD : List D → Option (List Bool)
  | [] => some []
  | .bool i :: r => (boolsD r).map (i :: ·)
  | _ :: _ => none
theorem boolsD_eq : ∀ {ds : List D} {ns : List Bool}, boolsD ds = some ns → ds = ns.map .bool
  | [], _, h => by cases h; rfl
  | .bool i :: r, ns, h => by
    obtain ⟨z, e, rfl⟩ := Option.map_eq_some_iff.mp h
    rw [boolsD_eq e]
    rfl
  | .none :: _, _, h => by cases h
  | .int _ :: _, _, h => by cases h
  | .str _ :: _, _, h => by cases h
  | .list _ :: _, _, h => by cases h
  | .tuple _ :: _, _, h => by cases h
  | .dict _ :: _, _, h => by cases h
theorem boolsD_map (ns : List Bool) : boolsD (ns.map .bool) = some ns := by
  induction ns with
  | nil => rfl
  | cons n r ih => show (boolsD (r.map .bool)).map (n :: ·) = _; rw [ih]; rfl
theorem RpA.bools {K : Fr_} {H : Hp} : ∀ {vs : List V} {ns : List Bool}, RpA K H vs (ns.map .bool) → vs = ns.map V.bl
  | _, [], .nil => rfl
  | _, _ :: _, .cons h r => by
    cases h
    rw [RpA.bools r]
    rfl
def dAll : List D → Option D
  | [.list ds] => (boolsD ds).map fun ns => .bool (ns.all id)
  | _ => none
def dAny : List D → Option D
  | [.list ds] => (boolsD ds).map fun ns => .bool (ns.any id)
  | _ => none
def dAbs : List D → Option D
  | [.int i] => some (.int (if i < 0 then -i else i))
  | _ => none
def dInt : List D → Option D
  | [.int i] => some (.int i)
  | [.bool b] => some (.int (if b then 1 else 0))
  | _ => none
def dStr : List D → Option D
  | [.int i] => if i.natAbs.log2 < 1920 then some (.str (toString i)) else none
  | [.str x] => some (.str x)
  | _ => none
def dTuple : List D → Option D
  | [.list ds] => some (.tuple ds)
  | [.tuple ds] => some (.tuple ds)
  | _ => none
def dList : List D → Option (List D)
  | [.list ds] => some ds
  | [.tuple ds] => some ds
  | _ => none
def sortOk (ds : List D) : Bool := decide (ds.length ≤ 100000) && (allAlike ds && ((ds.all fun d => match d with | .tuple (_ :: _) => true | _ => false) || ds.all fun d => match d with | .tuple _ => false | _ => true))
def sortedD (ds : List D) : List D := ds.mergeSort (PySem.W.dataLe false fun d => d)
/-- alike up to their first difference -/
def sortOk2 (ds : List D) : Bool := decide (ds.length ≤ 100000) && ds.all fun d => (match d with | .tuple (_ :: _) => true | _ => false) && (!d.hasDict && (decide (d.depth ≤ 64) && ds.all fun d' => cmpT d d'))
def seqD : D → Option (List D)
  | .list ds => some ds
  | .tuple ds => some ds
  | _ => none
def dSorted : List D → Option (List D)
  | [d] => (seqD d).bind fun ds => if sortOk ds || sortOk2 ds then some (sortedD ds) else none
  | _ => none
def dRepr : List D → Option D
  | [d] => if d.showable && (decide (d.shown.length ≤ 1000000) && (!d.hasDict && decide (d.depth ≤ 64))) then some (.str d.shown) else none
  | _ => none
theorem allAlike_iff {ds : List D} (h : allAlike ds = true) : (∀ x ∈ ds, x ≠ .none ∧ x.depth ≤ 64 ∧ x.hasDict = false) ∧ ∀ x ∈ ds, ∀ y ∈ ds, PySem.W.alike x y = true := by
  have h' : ∀ x ∈ ds, (!isN x && (decide (x.depth ≤ 64) && (!x.hasDict && ds.all fun y => PySem.W.alike x y))) = true := List.all_eq_true.mp h
  refine ⟨fun x hx => ?_, fun x hx y hy => ?_⟩
  · obtain ⟨h1, h2⟩ := Bool.and_eq_true_iff.mp (h' x hx)
    obtain ⟨h3, h4⟩ := Bool.and_eq_true_iff.mp h2
    obtain ⟨h5, h6⟩ := Bool.and_eq_true_iff.mp h4
    exact ⟨isN_ne (by simpa using h1), of_decide_eq_true h3, by simpa using h5⟩
  · obtain ⟨h1, h2⟩ := Bool.and_eq_true_iff.mp (h' x hx)
    obtain ⟨h3, h4⟩ := Bool.and_eq_true_iff.mp h2
    obtain ⟨h5, h6⟩ := Bool.and_eq_true_iff.mp h4
    exact List.all_eq_true.mp h6 y hy
theorem depthAll_le : ∀ {ds : List D} {n : Nat}, (∀ x ∈ ds, x.depth ≤ n) → PyData.depthAll ds ≤ n
  | [], n, _ => Nat.zero_le _
  | d :: r, n, h => by
    rw [PyData.depthAll]
    exact Nat.max_le.mpr ⟨h d List.mem_cons_self, depthAll_le fun x hx => h x (List.mem_cons_of_mem _ hx)⟩
theorem foldl_mem {α : Type} (f : α → α → Bool) : ∀ (xs : List α) (x : α), xs.foldl (fun a y => if f a y then y else a) x ∈ x :: xs
  | [], x => List.mem_cons_self
  | y :: r, x => by
    show r.foldl _ (if f x y then y else x) ∈ _
    have h := foldl_mem f r (if f x y then y else x)
    rcases List.mem_cons.mp h with e | e
    · rw [e]
      split
      · exact List.mem_cons_of_mem _ List.mem_cons_self
      · exact List.mem_cons_self
    · exact List.mem_cons_of_mem _ (List.mem_cons_of_mem _ e)
theorem maxD_mem (x : D) (xs : List D) : PySem.W.maxD x xs ∈ x :: xs := foldl_mem (fun a y => PySem.W.dataLt a y) xs x
theorem minD_mem (x : D) (xs : List D) : PySem.W.minD x xs ∈ x :: xs := foldl_mem (fun a y => PySem.W.dataLt y a) xs x
section
variable {X : Cx}
theorem call_len_dK : CallR X (.builtin "len") (fun xs H Q => ∃ (a : Addr) (ws : List (Key × V)), xs = [V.ref a] ∧ Rd H a (.dK ws) ∧ Q (.int ws.length) H) := fun pins s σ H xs us Q I rs ⟨a, ws, ex, hd, q⟩ => by
  subst ex
  obtain ⟨u, rfl, ru⟩ := vals1 rs
  obtain rfl : u = Value.ref a := ru
  exact d_len I hd fun t s' I' => ⟨.int _, H, I', ⟨t, rfl⟩, q⟩
theorem RpK.length {K : Fr_} {H : Hp} {ws : List (Key × V)} {kvs : List (D × D)} (r : RpK K H ws kvs) : ws.length = kvs.length := by
  have := congrArg List.length r.1
  rwa [List.length_map, List.length_map] at this
theorem cd_len : CallD X (.builtin "len") dLen := CallR.imp (CallR.or call_len_seq (CallR.or call_len_str call_len_dK)) fun vs H Q ⟨ds, z, h, e, k⟩ => by
  unfold dLen at e
  split at e
  · cases e
    obtain ⟨v, rfl, h1⟩ := h.one
    obtain ⟨p, xs, rfl, hp, r⟩ := h1.list
    exact .inl ⟨p, xs, rfl, .inl hp, by rw [r.length]; exact k _ H (Same.refl H) (.int _)⟩
  · cases e
    obtain ⟨v, rfl, h1⟩ := h.one
    obtain ⟨p, xs, rfl, hp, r⟩ := h1.tuple
    exact .inl ⟨p, xs, rfl, .inr hp, by rw [r.length]; exact k _ H (Same.refl H) (.int _)⟩
  · split at e
    · rename_i hl
      cases e
      obtain ⟨v, rfl, h1⟩ := h.one
      exact .inr (.inl ⟨_, congrArg (fun z => [z]) h1.str, hl, k _ H (Same.refl H) (.int _)⟩)
    · cases e
  · cases e
    obtain ⟨v, rfl, h1⟩ := h.one
    obtain ⟨a, ws, rfl, hd, r⟩ := h1.dict
    exact .inr (.inr ⟨a, ws, rfl, hd, by rw [r.length]; exact k _ H (Same.refl H) (.int _)⟩)
  · cases e
theorem pick_data {pins : List (Addr × Obj)} {σ : St} {H : Hp} {s : Shared} {h' : Heap} {tk : Nat} {its : List Value} {xs : List V} {ds : List D} {i : Nat} {v : Value} {d : D} {bs : List Addr} (I : Inv X pins σ H s) (hk : ∀ b o, s.heap.get? b = some o → h'.get? b = some o) (rv : Vals xs its) (r : RpA X.K H xs ds) (hnd : ∀ x ∈ ds, x.hasDict = false)
    (hal : ∀ x ∈ ds, ∀ y ∈ ds, PySem.W.alike x y = true) (hm : d ∈ ds) (hv : its[i]? = some v) (hR : Reads h' v d bs) : ∃ w, RelV w v ∧ Rp X.K H w d ∧ Inv X pins σ H { s with heap := h', toks := tk } := by
  have I2 : Inv X pins σ H { s with heap := h', toks := tk } := I.kept (t' := tk) hk
  cases hx : xs[i]? with
  | none =>
    rw [rv.none_of hx] at hv
    cases hv
  | some w =>
    obtain ⟨u, hu, ru⟩ := rv.get hx
    rw [hv] at hu
    cases hu
    obtain ⟨d', hd', rd⟩ := r.get' hx
    obtain ⟨as, r2⟩ := Dp.reads I2 d' w v (rd.dp (hnd d' (List.mem_of_getElem? hd'))) ru
    have e : d' = d := PySem.W.alike_unique d' d v _ _ (hal d' (List.mem_of_getElem? hd') d hm) r2 hR
    subst e
    exact ⟨w, ru, rd, I2⟩
theorem nuMax_int (i j : Int) : nuMax2 (.int i) (.int j) = some (.int (max i j)) := by
  show some (if decide (i < j) = true then V.int j else V.int i) = _
  by_cases h : i < j
  · rw [if_pos (decide_eq_true h)]
    congr 2
    omega
  · rw [if_neg (by simpa using h)]
    congr 2
    omega
theorem nuMin_int (i j : Int) : nuMin2 (.int i) (.int j) = some (.int (min i j)) := by
  show some (if decide (j < i) = true then V.int j else V.int i) = _
  by_cases h : j < i
  · rw [if_pos (decide_eq_true h)]
    congr 2
    omega
  · rw [if_neg (by simpa using h)]
    congr 2
    omega
theorem cd_max (hc : X.calm = true) (hu : X.A.units + 100 < cLine) : CallD X (.builtin "max") dMax := by
  intro pins s σ H vs us Q I rs ⟨ds, z, h, e, k⟩
  unfold dMax at e
  split at e
  · cases e
    obtain ⟨v, u, rfl, h1, h2⟩ := h.two
    have e1 := h1.int
    have e2 := h2.int
    subst e1 e2
    exact call_max2Nu hc pins s σ H _ us Q I rs ⟨_, _, _, rfl, nuMax_int _ _, k _ H (Same.refl H) (.int _)⟩
  · cases e
    obtain ⟨v, u, w, rfl, h1, h2, h3⟩ := h.three
    have e1 := h1.int
    have e2 := h2.int
    have e3 := h3.int
    subst e1 e2 e3
    exact call_max3Nu hc pins s σ H _ us Q I rs ⟨_, _, _, _, rfl, (by
      unfold nuMax3
      rw [nuMax_int]
      exact nuMax_int _ _), k _ H (Same.refl H) (.int _)⟩
  · split at e
    · rename_i hal
      cases e
      obtain ⟨v, rfl, h1⟩ := h.one
      obtain ⟨p, xs, rfl, hp, r⟩ := h1.list
      obtain ⟨u, rfl, ru⟩ := vals1 rs
      cases ru
      obtain ⟨a1, a2⟩ := allAlike_iff hal
      obtain ⟨its, rv, pl, _⟩ := I.list hp
      obtain ⟨as, rr⟩ := Dp.readsAll I _ _ its (r.dp (noDictAll fun x hx => (a1 x hx).2.2)) rv
      refine PySem.W.max_list_data (I.ok.hd hc) pl.isList rr ⟨a2, fun x hx => (a1 x hx).1⟩ (by have := depthAll_le fun x hx => (a1 x hx).2.1; omega) fun i v h' tk bs hv hR hk => ?_
      obtain ⟨w, rw_, rd, I2⟩ := pick_data (tk := tk) I hk rv r (fun x hx => (a1 x hx).2.2) a2 (maxD_mem _ _) (by simpa using hv) hR
      exact ⟨w, H, I2, rw_, k w H (Same.refl H) rd⟩
    · cases e
  · split at e
    · rename_i hal
      cases e
      obtain ⟨v, rfl, h1⟩ := h.one
      obtain ⟨p, xs, rfl, hp, r⟩ := h1.tuple
      obtain ⟨u, rfl, ru⟩ := vals1 rs
      cases ru
      obtain ⟨a1, a2⟩ := allAlike_iff hal
      obtain ⟨its, rv, pl, _⟩ := I.tuple hp
      obtain ⟨as, rr⟩ := Dp.readsAll I _ _ its (r.dp (noDictAll fun x hx => (a1 x hx).2.2)) rv
      refine PySem.W.max_tuple_data (I.ok.hd hc) (show s.heap.IsTuple p its.toArray from pl) rr ⟨a2, fun x hx => (a1 x hx).1⟩ (by have := depthAll_le fun x hx => (a1 x hx).2.1; omega) fun i v h' tk bs hv hR hk => ?_
      obtain ⟨w, rw_, rd, I2⟩ := pick_data (tk := tk) I hk rv r (fun x hx => (a1 x hx).2.2) a2 (maxD_mem _ _) (by simpa using hv) hR
      exact ⟨w, H, I2, rw_, k w H (Same.refl H) rd⟩
    · cases e
  · cases e
theorem cd_min (hc : X.calm = true) (hu : X.A.units + 100 < cLine) : CallD X (.builtin "min") dMin := by
  intro pins s σ H vs us Q I rs ⟨ds, z, h, e, k⟩
  unfold dMin at e
  split at e
  · cases e
    obtain ⟨v, u, rfl, h1, h2⟩ := h.two
    have e1 := h1.int
    have e2 := h2.int
    subst e1 e2
    exact call_min2Nu hc pins s σ H _ us Q I rs ⟨_, _, _, rfl, nuMin_int _ _, k _ H (Same.refl H) (.int _)⟩
  · cases e
    obtain ⟨v, u, w, rfl, h1, h2, h3⟩ := h.three
    have e1 := h1.int
    have e2 := h2.int
    have e3 := h3.int
    subst e1 e2 e3
    exact call_min3Nu hc pins s σ H _ us Q I rs ⟨_, _, _, _, rfl, (by
      unfold nuMin3
      rw [nuMin_int]
      exact nuMin_int _ _), k _ H (Same.refl H) (.int _)⟩
  · split at e
    · rename_i hal
      cases e
      obtain ⟨v, rfl, h1⟩ := h.one
      obtain ⟨p, xs, rfl, hp, r⟩ := h1.list
      obtain ⟨u, rfl, ru⟩ := vals1 rs
      cases ru
      obtain ⟨a1, a2⟩ := allAlike_iff hal
      obtain ⟨its, rv, pl, _⟩ := I.list hp
      obtain ⟨as, rr⟩ := Dp.readsAll I _ _ its (r.dp (noDictAll fun x hx => (a1 x hx).2.2)) rv
      refine PySem.W.min_list_data (I.ok.hd hc) pl.isList rr ⟨a2, fun x hx => (a1 x hx).1⟩ (by have := depthAll_le fun x hx => (a1 x hx).2.1; omega) fun i v h' tk bs hv hR hk => ?_
      obtain ⟨w, rw_, rd, I2⟩ := pick_data (tk := tk) I hk rv r (fun x hx => (a1 x hx).2.2) a2 (minD_mem _ _) (by simpa using hv) hR
      exact ⟨w, H, I2, rw_, k w H (Same.refl H) rd⟩
    · cases e
  · split at e
    · rename_i hal
      cases e
      obtain ⟨v, rfl, h1⟩ := h.one
      obtain ⟨p, xs, rfl, hp, r⟩ := h1.tuple
      obtain ⟨u, rfl, ru⟩ := vals1 rs
      cases ru
      obtain ⟨a1, a2⟩ := allAlike_iff hal
      obtain ⟨its, rv, pl, _⟩ := I.tuple hp
      obtain ⟨as, rr⟩ := Dp.readsAll I _ _ its (r.dp (noDictAll fun x hx => (a1 x hx).2.2)) rv
      refine PySem.W.min_tuple_data (I.ok.hd hc) (show s.heap.IsTuple p its.toArray from pl) rr ⟨a2, fun x hx => (a1 x hx).1⟩ (by have := depthAll_le fun x hx => (a1 x hx).2.1; omega) fun i v h' tk bs hv hR hk => ?_
      obtain ⟨w, rw_, rd, I2⟩ := pick_data (tk := tk) I hk rv r (fun x hx => (a1 x hx).2.2) a2 (minD_mem _ _) (by simpa using hv) hR
      exact ⟨w, H, I2, rw_, k w H (Same.refl H) rd⟩
    · cases e
  · cases e
theorem cd_sum (hc : X.calm = true) : CallD X (.builtin "sum") dSum := CallR.imp (cr_sum hc) fun vs H Q ⟨ds, z, h, e, k⟩ => by
  unfold dSum at e
  split at e
  · obtain ⟨ns, e1, rfl⟩ := Option.map_eq_some_iff.mp e
    obtain ⟨v, rfl, h1⟩ := h.one
    obtain ⟨p, xs, rfl, hp, r⟩ := h1.list
    rw [ints_eq e1] at r
    rw [r.intsD] at hp
    exact ⟨p, ns, rfl, hp, k _ H (Same.refl H) (.int _)⟩
  · cases e
theorem cd_all (hc : X.calm = true) : CallD X (.builtin "all") dAll := CallR.imp (cr_all hc) fun vs H Q ⟨ds, z, h, e, k⟩ => by
  unfold dAll at e
  split at e
  · obtain ⟨ns, e1, rfl⟩ := Option.map_eq_some_iff.mp e
    obtain ⟨v, rfl, h1⟩ := h.one
    obtain ⟨p, xs, rfl, hp, r⟩ := h1.list
    rw [boolsD_eq e1] at r
    rw [r.bools] at hp
    exact ⟨p, ns, rfl, hp, k _ H (Same.refl H) (.bl _)⟩
  · cases e
theorem cd_any (hc : X.calm = true) : CallD X (.builtin "any") dAny := CallR.imp (cr_any hc) fun vs H Q ⟨ds, z, h, e, k⟩ => by
  unfold dAny at e
  split at e
  · obtain ⟨ns, e1, rfl⟩ := Option.map_eq_some_iff.mp e
    obtain ⟨v, rfl, h1⟩ := h.one
    obtain ⟨p, xs, rfl, hp, r⟩ := h1.list
    rw [boolsD_eq e1] at r
    rw [r.bools] at hp
    exact ⟨p, ns, rfl, hp, k _ H (Same.refl H) (.bl _)⟩
  · cases e
theorem cd_abs : CallD X (.builtin "abs") dAbs := CallR.imp call_abs fun vs H Q ⟨ds, z, h, e, k⟩ => by
  unfold dAbs at e
  split at e
  · cases e
    obtain ⟨v, rfl, h1⟩ := h.one
    exact ⟨_, congrArg (fun z => [z]) h1.int, k _ H (Same.refl H) (.int _)⟩
  · cases e
theorem cd_int : CallD X (.type "int") dInt := CallR.imp call_int1 fun vs H Q ⟨ds, z, h, e, k⟩ => by
  unfold dInt at e
  split at e
  · cases e
    obtain ⟨v, rfl, h1⟩ := h.one
    exact .inl ⟨_, congrArg (fun z => [z]) h1.int, k _ H (Same.refl H) (.int _)⟩
  · cases e
    obtain ⟨v, rfl, h1⟩ := h.one
    exact .inr ⟨_, congrArg (fun z => [z]) h1.bool, k _ H (Same.refl H) (.int _)⟩
  · cases e
theorem cd_str : CallD X (.type "str") dStr := CallR.imp (CallR.or call_str_int SkE.call_str_str) fun vs H Q ⟨ds, z, h, e, k⟩ => by
  unfold dStr at e
  split at e
  · split at e
    · rename_i hl
      cases e
      obtain ⟨v, rfl, h1⟩ := h.one
      exact .inl ⟨_, congrArg (fun z => [z]) h1.int, hl, k _ H (Same.refl H) (.str _)⟩
    · cases e
  · cases e
    obtain ⟨v, rfl, h1⟩ := h.one
    exact .inr ⟨_, congrArg (fun z => [z]) h1.str, k _ H (Same.refl H) (.str _)⟩
  · cases e
theorem cd_tuple : CallD X (.type "tuple") dTuple := CallR.imp call_tuple_of' fun vs H Q ⟨ds, z, h, e, k⟩ => by
  unfold dTuple at e
  split at e
  · cases e
    obtain ⟨v, rfl, h1⟩ := h.one
    obtain ⟨p, xs, rfl, hp, r⟩ := h1.list
    exact ⟨p, xs, rfl, .inl ⟨hp, fun l u hl hu => k _ _ (Same.new hl) (.tup (.of hu upd_same) (r.mono (.of_same (Same.new hl))))⟩⟩
  · cases e
    obtain ⟨v, rfl, h1⟩ := h.one
    obtain ⟨p, xs, rfl, hp, r⟩ := h1.tupleP
    exact ⟨p, xs, rfl, .inr ⟨hp.sq, k _ H (Same.refl H) (.tup hp r)⟩⟩
  · cases e
theorem cf_list : CallF X (.type "list") dList := CallR.imp call_list_of fun vs H Q ⟨ds, z, h, e, k⟩ => by
  unfold dList at e
  split at e
  · cases e
    obtain ⟨v, rfl, h1⟩ := h.one
    obtain ⟨p, xs, rfl, hp, r⟩ := h1.list
    exact ⟨p, xs, rfl, .inl hp, fun l hl => k _ _ _ hl (Same.new hl) upd_same (r.mono (.of_same (Same.new hl)))⟩
  · cases e
    obtain ⟨v, rfl, h1⟩ := h.one
    obtain ⟨p, xs, rfl, hp, r⟩ := h1.tuple
    exact ⟨p, xs, rfl, .inr hp, fun l hl => k _ _ _ hl (Same.new hl) upd_same (r.mono (.of_same (Same.new hl)))⟩
  · cases e
end
end DL

set_option Elab.async false
set_option linter.all false
set_option maxRecDepth 100000
set_option maxHeartbeats 2000000
set_option autoImplicit false
namespace DL
open PySem PySem.Spec PyProof.Rows L2
section
variable {X : Cx} {c : FC} {T : Type} {G : T → Env_}
/-! ### the same where held lists change on the way -/
def liftX {α : Type} (m : T → Option α) : T → Option (α × T) := fun t => (m t).map fun d => (d, t)
theorem liftX_eq {α : Type} {m : T → Option α} {t t' : T} {d : α} (h : liftX m t = some (d, t')) : m t = some d ∧ t' = t := by
  obtain ⟨x, e1, e2⟩ := Option.map_eq_some_iff.mp h
  cases e2
  exact ⟨e1, rfl⟩
theorem dx_lift {e : Expr} {m : T → Option D} (h : ∀ t, DE X c (G t) e (m t)) : DX X c G e (liftX m) := fun t d t' hd σ H Q E k => by
  obtain ⟨e1, rfl⟩ := liftX_eq hd
  exact h _ d e1 σ H Q E fun v H' s r => k v H' (E.same s) (.of_same E s) r
theorem dxf_lift {e : Expr} {m : T → Option (List D)} (h : ∀ t, DF X c (G t) e (m t)) : DXF X c G e (liftX m) := fun t d t' hd σ H Q E k => by
  obtain ⟨e1, rfl⟩ := liftX_eq hd
  exact h _ d e1 σ H Q E fun a H' xs hn s ha r => k a H' xs hn (E.same s) (.of_same E s) ha r
theorem dxt_lift {e : Expr} {m : T → Option Bool} (h : ∀ t, DT X c (G t) e (m t)) : DXT X c G e (liftX m) := fun t d t' hd σ H Q E k => by
  obtain ⟨e1, rfl⟩ := liftX_eq hd
  exact h _ d e1 σ H Q E fun H' s => k H' (E.same s) (.of_same E s)
theorem dxa_lift {es : List Expr} {m : T → Option (List D)} (h : ∀ t, DA X c (G t) es (m t)) : DXA X c G es (liftX m) := fun t d t' hd σ H Q E k => by
  obtain ⟨e1, rfl⟩ := liftX_eq hd
  exact h _ d e1 σ H Q E fun v H' s r => k v H' (E.same s) (.of_same E s) r
theorem dxf_frz {e : Expr} {m : T → Option (List D × T)} (h : DXF X c G e m) : DX X c G e (fun t => (m t).map fun p => (.list p.1, p.2)) := fun t d t' hd σ H Q E k => by
  obtain ⟨⟨ds, t2⟩, e1, e2⟩ := Option.map_eq_some_iff.mp hd
  have e3 : d = .list ds := (congrArg Prod.fst e2).symm
  have e4 : t2 = t' := congrArg Prod.snd e2
  subst e3 e4
  refine sE_of (pe_frz (pe_s e)) ?_
  refine h t ds t2 e1 σ H _ E fun a H' xs hn E' s ha r => ⟨a, _, rfl, ha, trivial, fun o => ?_⟩
  have hno : ¬ Owns (G t2) σ a := fun q => E.notOwn hn (s.2 a q)
  have m' : Mono H' (upd H' a (.frz o (.lst xs))) := by
    refine ⟨fun b zs hb => ?_, fun b o' u hb => ?_⟩
    · rw [upd_ne (ne_of hb ha (by intro z; cases z))]
      exact hb
    · rw [upd_ne (ne_of hb ha (by intro z; cases z))]
      exact hb
  have keep : ∀ b u, H' b = some u → b ≠ a → upd H' a (.frz o (.lst xs)) b = some u := fun b u hb hne => by
    rw [upd_ne hne]
    exact hb
  have E'' : EnvOk X.K c σ (upd H' a (.frz o (.lst xs))) (G t2) := by
    refine ⟨fun i q hq => ?_, E'.apart, fun b u hb hm => keep b u (E'.pres b u hb hm) fun z => ?_, E'.new, E'.pins, E'.len⟩
    · exact (E'.cells i q hq).keep m' fun ho b u e1 hb => keep b u hb fun q' => hno ⟨i, q, hq, ho, q' ▸ e1⟩
    · rw [z, E.fresh0 hn] at hb
      cases hb
  refine k _ _ E'' ⟨fun b u hb hw => keep b u (s.1 b u hb hw) fun z => ?_, s.2, fun b hb => ?_⟩ (.lst (.inl ⟨o, upd_same⟩) (r.mono m'))
  · rw [z, hn] at hb
    cases hb
  · by_cases e3 : b = a
    · rw [e3, upd_same]
      intro z
      cases z
    · rw [upd_ne e3]
      exact s.3 b hb
/-! arguments -/
def consX (m : T → Option (D × T)) (ms : T → Option (List D × T)) : T → Option (List D × T) := fun t => (m t).bind fun p => (ms p.2).map fun q => (p.1 :: q.1, q.2)
theorem dxa_nil : DXA X c G [] (fun t => some ([], t)) := fun t ds t' hd σ H Q E k => by
  cases hd
  exact k [] H E (.refl E) .nil
theorem dxa_cons {e : Expr} {es : List Expr} {m : T → Option (D × T)} {ms : T → Option (List D × T)} (h : DX X c G e m) (hs : DXA X c G es ms) : DXA X c G (e :: es) (consX m ms) := fun t ds t' hd σ H Q E k => by
  obtain ⟨⟨x, t1⟩, e1, e2⟩ := Option.bind_eq_some_iff.mp hd
  obtain ⟨⟨xs, t2⟩, e3, e4⟩ := Option.map_eq_some_iff.mp e2
  cases e4
  exact h t x t1 e1 σ H _ E fun v H1 E1 s1 r1 => hs t1 xs _ e3 σ H1 _ E1 fun vs H2 E2 s2 r2 => k _ _ E2 (s1.trans s2) (.cons (r1.mono (s2.mono E1)) r2)
/-! operators -/
def binX (g : D → D → Option D) (a b : T → Option (D × T)) : T → Option (D × T) := fun t => (a t).bind fun p => (b p.2).bind fun q => (g p.1 q.1).map fun z => (z, q.2)
theorem dx_op {op : Operator} {g : D → D → Option D} {a b : Expr} {ma mb : T → Option (D × T)} {pos : Pos} (ho : OpD X (binaryOp op) g) (ha : DX X c G a ma) (hb : DX X c G b mb) : DX X c G (.BinOp a op b pos) (binX g ma mb) := fun t d t' hd σ H Q E k => by
  obtain ⟨⟨x, t1⟩, e1, e2⟩ := Option.bind_eq_some_iff.mp hd
  obtain ⟨⟨y, t2⟩, e3, e4⟩ := Option.bind_eq_some_iff.mp e2
  obtain ⟨z, e5, e6⟩ := Option.map_eq_some_iff.mp e4
  cases e6
  refine sE_of (pe_op ho (pe_s a) (pe_s b)) ?_
  exact ha t x t1 e1 σ H _ E fun v H1 E1 s1 r1 => hb t1 y _ e3 σ H1 _ E1 fun u H2 E2 s2 r2 => ⟨x, y, d, .st (r1.mono (s2.mono E1)), .st r2, e5, fun w H3 s3 r3 => k w H3 (E2.same s3) ((s1.trans s2).trans (.of_same E2 s3)) r3⟩
theorem dx_cmp {op : CmpOp} {g : D → D → Option D} {a b : Expr} {ma mb : T → Option (D × T)} {pos : Pos} (ho : OpD X (compareOp op) g) (ha : DX X c G a ma) (hb : DX X c G b mb) (hm : behindInMarks op b = false := by first | rfl | exact nomark _) : DX X c G (.Compare a [op] [b] pos) (binX g ma mb) := fun t d t' hd σ H Q E k => by
  obtain ⟨⟨x, t1⟩, e1, e2⟩ := Option.bind_eq_some_iff.mp hd
  obtain ⟨⟨y, t2⟩, e3, e4⟩ := Option.bind_eq_some_iff.mp e2
  obtain ⟨z, e5, e6⟩ := Option.map_eq_some_iff.mp e4
  cases e6
  refine sE_of (pe_cmpR ho (pe_s a) (pe_s b) hm) ?_
  exact ha t x t1 e1 σ H _ E fun v H1 E1 s1 r1 => hb t1 y _ e3 σ H1 _ E1 fun u H2 E2 s2 r2 => ⟨x, y, d, .st (r1.mono (s2.mono E1)), .st r2, e5, fun w H3 s3 r3 => k w H3 (E2.same s3) ((s1.trans s2).trans (.of_same E2 s3)) r3⟩
def isBX (m : T → Option (D × T)) : T → Option (Bool × T) := fun t => (m t).bind fun p => (isB p.1).map fun b => (b, p.2)
theorem dxt_cmp {op : CmpOp} {g : D → D → Option D} {a b : Expr} {ma mb : T → Option (D × T)} {pos : Pos} (ho : OpD X (compareOp op) g) (ha : DX X c G a ma) (hb : DX X c G b mb) (hm : behindInMarks op b = false := by first | rfl | exact nomark _) : DXT X c G (.Compare a [op] [b] pos) (isBX (binX g ma mb)) := fun t d t' hd σ H Q E k => by
  obtain ⟨⟨w, t3⟩, e0, e00⟩ := Option.bind_eq_some_iff.mp hd
  obtain ⟨bb, e7, e8⟩ := Option.map_eq_some_iff.mp e00
  cases e8
  have ew := isB_eq e7
  have ew' : w = .bool d := ew
  subst ew'
  obtain ⟨⟨x, t1⟩, e1, e2⟩ := Option.bind_eq_some_iff.mp e0
  obtain ⟨⟨y, t2⟩, e3, e4⟩ := Option.bind_eq_some_iff.mp e2
  obtain ⟨z, e5, e6⟩ := Option.map_eq_some_iff.mp e4
  cases e6
  refine sT_of (pt_cmpR ho (pe_s a) (pe_s b) hm) ?_
  exact ha t x t1 e1 σ H _ E fun v H1 E1 s1 r1 => hb t1 y _ e3 σ H1 _ E1 fun u H2 E2 s2 r2 => ⟨x, y, _, .st (r1.mono (s2.mono E1)), .st r2, e5, fun w H3 s3 r3 => ⟨d, RpW.bool (.st r3), k H3 (E2.same s3) ((s1.trans s2).trans (.of_same E2 s3))⟩⟩
theorem dxt_val {e : Expr} {m : T → Option (D × T)} (h : DX X c G e m) (he : ∀ whole, isTrue e X.env whole = (do let v ← whole; standAt e.pos; holding [v] (truthy v)) := by intro _; rfl) : DXT X c G e (isBX m) := fun t d t' hd σ H Q E k => by
  obtain ⟨⟨w, t3⟩, e0, e00⟩ := Option.bind_eq_some_iff.mp hd
  obtain ⟨bb, e7, e8⟩ := Option.map_eq_some_iff.mp e00
  cases e8
  have ew' : w = .bool d := isB_eq e7
  subst ew'
  exact sT_of (pt_val (pe_s e) he) (h t _ _ e0 σ H _ E fun v H' E' s r => ⟨d, RpW.bool (.st r), k H' E' s⟩)
theorem DXTw.t {e : Expr} {m : T → Option (Bool × T)} (h : DXTw X c G e m) : DXT X c G e m := fun t d t' hd σ H Q E k => fun pins s I => h t d t' hd σ H Q E k _ pins s I
def andTX (a b : T → Option (Bool × T)) : T → Option (Bool × T) := fun t => (a t).bind fun p => if p.1 then b p.2 else some (false, p.2)
def orTX (a b : T → Option (Bool × T)) : T → Option (Bool × T) := fun t => (a t).bind fun p => if p.1 then some (true, p.2) else b p.2
theorem dxw_and1 {a : Expr} {ma : T → Option (Bool × T)} {pos : Pos} (h : DXT X c G a ma) : DXTw X c G (.BoolOp .And [a] pos) ma := fun t d t' hd σ H Q E k => sW_of (pw_and1 (pt_s a)) (h t d t' hd σ H _ E k)
theorem dxw_or1 {a : Expr} {ma : T → Option (Bool × T)} {pos : Pos} (h : DXT X c G a ma) : DXTw X c G (.BoolOp .Or [a] pos) ma := fun t d t' hd σ H Q E k => sW_of (pw_or1 (pt_s a)) (h t d t' hd σ H _ E k)
theorem dxw_and {a b : Expr} {rest : List Expr} {ma mb : T → Option (Bool × T)} {pos : Pos} (h : DXT X c G a ma) (hb : DXTw X c G (.BoolOp .And (b :: rest) pos) mb) : DXTw X c G (.BoolOp .And (a :: b :: rest) pos) (andTX ma mb) := fun t d t' hd σ H Q E k => by
  obtain ⟨⟨x, t1⟩, e1, e2⟩ := Option.bind_eq_some_iff.mp hd
  refine sW_of (pw_and (pt_s a) (pw_s _)) (h t x t1 e1 σ H _ E fun H1 E1 s1 => ?_)
  cases x with
  | true => exact iteT (hb t1 d t' e2 σ H1 _ E1 fun H2 E2 s2 => k H2 E2 (s1.trans s2))
  | false =>
    rw [if_neg Bool.false_ne_true] at e2
    cases e2
    exact iteF (k H1 E1 s1)
theorem dxw_or {a b : Expr} {rest : List Expr} {ma mb : T → Option (Bool × T)} {pos : Pos} (h : DXT X c G a ma) (hb : DXTw X c G (.BoolOp .Or (b :: rest) pos) mb) : DXTw X c G (.BoolOp .Or (a :: b :: rest) pos) (orTX ma mb) := fun t d t' hd σ H Q E k => by
  obtain ⟨⟨x, t1⟩, e1, e2⟩ := Option.bind_eq_some_iff.mp hd
  refine sW_of (pw_or (pt_s a) (pw_s _)) (h t x t1 e1 σ H _ E fun H1 E1 s1 => ?_)
  cases x with
  | true =>
    rw [if_pos rfl] at e2
    cases e2
    exact iteT (k H1 E1 s1)
  | false => exact iteF (hb t1 d t' e2 σ H1 _ E1 fun H2 E2 s2 => k H2 E2 (s1.trans s2))
def notTX (a : T → Option (Bool × T)) : T → Option (Bool × T) := fun t => (a t).map fun p => (!p.1, p.2)
theorem dxt_not {a : Expr} {ma : T → Option (Bool × T)} {pos : Pos} (h : DXT X c G a ma) : DXT X c G (.UnaryOp .Not a pos) (notTX ma) := fun t d t' hd σ H Q E k => by
  obtain ⟨⟨x, t1⟩, e1, e2⟩ := Option.map_eq_some_iff.mp hd
  cases e2
  exact sT_of (pt_not (pt_s a)) (h t x _ e1 σ H _ E fun H1 E1 s1 => k H1 E1 s1)
def andVX (a b : T → Option (D × T)) : T → Option (D × T) := fun t => (a t).bind fun p => (isB p.1).bind fun x => if x then b p.2 else some (.bool false, p.2)
theorem dx_one {op : BoolOp} {a : Expr} {ma : T → Option (D × T)} {pos : Pos} (h : DX X c G a ma) : DX X c G (.BoolOp op [a] pos) ma := fun t d t' hd σ H Q E k => sE_of (pe_one (pe_s a)) (h t d t' hd σ H Q E k)
theorem dx_and {a b : Expr} {rest : List Expr} {ma mb : T → Option (D × T)} {pos : Pos} (h : DX X c G a ma) (hb : DX X c G (.BoolOp .And (b :: rest) pos) mb) : DX X c G (.BoolOp .And (a :: b :: rest) pos) (andVX ma mb) := fun t d t' hd σ H Q E k => by
  obtain ⟨⟨z, t1⟩, e1, e2⟩ := Option.bind_eq_some_iff.mp hd
  obtain ⟨x, e3, e4⟩ := Option.bind_eq_some_iff.mp e2
  have ez : z = .bool x := isB_eq e3
  subst ez
  refine sE_of (pe_and (pe_s a) (pe_s _)) (h t _ t1 e1 σ H _ E fun v H1 E1 s1 r1 => ⟨x, RpW.bool (.st r1), ?_⟩)
  cases x with
  | true => exact iteT (hb t1 d t' e4 σ H1 _ E1 fun w H2 E2 s2 r2 => k w H2 E2 (s1.trans s2) r2)
  | false =>
    rw [if_neg Bool.false_ne_true] at e4
    cases e4
    exact iteF (k _ H1 E1 s1 (.bl false))
/-! a if t else b -/
def iteX {α : Type} (t : T → Option (Bool × T)) (a b : T → Option (α × T)) : T → Option (α × T) := fun s => (t s).bind fun p => if p.1 then a p.2 else b p.2
theorem dx_ite {e a b : Expr} {mt : T → Option (Bool × T)} {ma mb : T → Option (D × T)} {pos : Pos} (ht : DXT X c G e mt) (ha : DX X c G a ma) (hb : DX X c G b mb) : DX X c G (.IfExp e a b pos) (iteX mt ma mb) := fun t d t' hd σ H Q E k => by
  obtain ⟨⟨x, t1⟩, e1, e2⟩ := Option.bind_eq_some_iff.mp hd
  refine sE_of (pe_ifExp (pt_s e) (pe_s a) (pe_s b)) (ht t x t1 e1 σ H _ E fun H1 E1 s1 => ?_)
  cases x with
  | true => exact iteT (ha t1 d t' e2 σ H1 _ E1 fun w H2 E2 s2 r2 => k w H2 E2 (s1.trans s2) r2)
  | false => exact iteF (hb t1 d t' e2 σ H1 _ E1 fun w H2 E2 s2 r2 => k w H2 E2 (s1.trans s2) r2)
theorem dxf_ite {e a b : Expr} {mt : T → Option (Bool × T)} {ma mb : T → Option (List D × T)} {pos : Pos} (ht : DXT X c G e mt) (ha : DXF X c G a ma) (hb : DXF X c G b mb) : DXF X c G (.IfExp e a b pos) (iteX mt ma mb) := fun t d t' hd σ H Q E k => by
  obtain ⟨⟨x, t1⟩, e1, e2⟩ := Option.bind_eq_some_iff.mp hd
  refine sE_of (pe_ifExp (pt_s e) (pe_s a) (pe_s b)) (ht t x t1 e1 σ H _ E fun H1 E1 s1 => ?_)
  cases x with
  | true => exact iteT (ha t1 d t' e2 σ H1 _ E1 fun a H2 xs hn E2 s2 h2 r2 => k a H2 xs (s1.free E hn) E2 (s1.trans s2) h2 r2)
  | false => exact iteF (hb t1 d t' e2 σ H1 _ E1 fun a H2 xs hn E2 s2 h2 r2 => k a H2 xs (s1.free E hn) E2 (s1.trans s2) h2 r2)
/-! displays, calls, items -/
def lenOkX (m : T → Option (List D × T)) : T → Option (List D × T) := fun t => (m t).bind fun p => if p.1.length ≤ 100000 then some p else none
def tupX (m : T → Option (List D × T)) : T → Option (D × T) := fun t => (lenOkX m t).map fun p => (.tuple p.1, p.2)
theorem dx_tup {es : List Expr} {m : T → Option (List D × T)} {x1 : Nat} {pos : Pos} (h : DXA X c G es m) (hs : NoStar X es := by exact ⟨rfl, rfl, rfl, rfl, trivial⟩) : DX X c G (.Tuple es x1 pos) (tupX m) := fun t d t' hd σ H Q E k => by
  obtain ⟨⟨ds, t1⟩, e0, e00⟩ := Option.map_eq_some_iff.mp hd
  cases e00
  obtain ⟨⟨ds', t2⟩, e1, e2⟩ := Option.bind_eq_some_iff.mp e0
  split at e2
  · rename_i hl
    cases e2
    refine sE_of (pe_tup' (pa_s hs)) (h t _ _ e1 σ H _ E fun vs H1 E1 s1 r1 => ⟨?_, fun p u hp hu => ?_⟩)
    · rw [r1.length]
      exact Nat.le_trans hl (by decide)
    · exact k _ _ (E1.same (Same.new hp)) (s1.trans (.of_same E1 (Same.new hp))) (.tup (.of hu upd_same) (r1.mono (.of_same (Same.new hp))))
  · cases e2
theorem dxf_lst {es : List Expr} {m : T → Option (List D × T)} {pos : Pos} (h : DXA X c G es m) (hs : NoStar X es := by exact ⟨rfl, rfl, rfl, rfl, trivial⟩) : DXF X c G (.List es pos) (lenOkX m) := fun t d t' hd σ H Q E k => by
  obtain ⟨⟨ds', t2⟩, e1, e2⟩ := Option.bind_eq_some_iff.mp hd
  split at e2
  · rename_i hl
    cases e2
    refine sE_of (pe_lst (pa_s hs)) (h t _ _ e1 σ H _ E fun vs H1 E1 s1 r1 => ⟨?_, fun p hp => ?_⟩)
    · rw [r1.length]
      exact Nat.le_trans hl (by decide)
    · exact k _ _ _ (s1.free E hp) (E1.same (Same.new hp)) (s1.trans (.of_same E1 (Same.new hp))) upd_same (r1.mono (.of_same (Same.new hp)))
  · cases e2
def appX {α : Type} (g : List D → Option α) (m : T → Option (List D × T)) : T → Option (α × T) := fun t => (m t).bind fun p => (g p.1).map fun z => (z, p.2)
theorem dx_callB {x : Str} {id : String} {g : List D → Option D} {e : Expr} {es : List Expr} {m : T → Option (List D × T)} {p pos : Pos} (hc : CallD X (.builtin id) g) (hm : X.mg x = none) (ha : DXA X c G (e :: es) m) (hg : Gl X x := by rfl) (hv : bootBuiltins x = some (.builtin id) := by decide +kernel)
    (hs : NoStar X (e :: es) := by exact ⟨rfl, rfl, rfl, rfl, trivial⟩) (hn : x ≠ "__name__" := by decide) (hdb : (x == ("__debug__" : Str)) = false := by decide) (hpl : (backTo pos (starEach es X.env)).any (·.1) = false := by rfl) : DX X c G (.Call (.Name x p) (e :: es) [] pos) (appX g m) := fun t d t' hd σ H Q E k => by
  obtain ⟨⟨ds, t1⟩, e1, e2⟩ := Option.bind_eq_some_iff.mp hd
  obtain ⟨z, e3, e4⟩ := Option.map_eq_some_iff.mp e2
  cases e4
  refine sE_of (pe_callB hc hg hm hv (pa_s hs) hn hdb hs.1 hpl) ?_
  exact ha t ds _ e1 σ H _ E fun vs H1 E1 s1 r1 => ⟨ds, d, .of r1, e3, fun w H2 s2 r2 => k w H2 (E1.same s2) (s1.trans (.of_same E1 s2)) r2⟩
theorem dx_callT {x : Str} {id : String} {g : List D → Option D} {e : Expr} {es : List Expr} {m : T → Option (List D × T)} {p pos : Pos} (hc : CallD X (.type id) g) (hm : X.mg x = none) (ha : DXA X c G (e :: es) m) (hg : Gl X x := by rfl) (hv : bootBuiltins x = some (.type id) := by decide +kernel)
    (hs : NoStar X (e :: es) := by exact ⟨rfl, rfl, rfl, rfl, trivial⟩) (hn : x ≠ "__name__" := by decide) (hdb : (x == ("__debug__" : Str)) = false := by decide) (hpl : (backTo pos (starEach es X.env)).any (·.1) = false := by rfl) : DX X c G (.Call (.Name x p) (e :: es) [] pos) (appX g m) := fun t d t' hd σ H Q E k => by
  obtain ⟨⟨ds, t1⟩, e1, e2⟩ := Option.bind_eq_some_iff.mp hd
  obtain ⟨z, e3, e4⟩ := Option.map_eq_some_iff.mp e2
  cases e4
  refine sE_of (pe_callTy hc hg hm hv (pa_s hs) hn hdb hs.1 hpl) ?_
  exact ha t ds _ e1 σ H _ E fun vs H1 E1 s1 r1 => ⟨ds, d, .of r1, e3, fun w H2 s2 r2 => k w H2 (E1.same s2) (s1.trans (.of_same E1 s2)) r2⟩
theorem dxf_callB {x : Str} {id : String} {g : List D → Option (List D)} {e : Expr} {es : List Expr} {m : T → Option (List D × T)} {p pos : Pos} (hc : CallF X (.builtin id) g) (hm : X.mg x = none) (ha : DXA X c G (e :: es) m) (hg : Gl X x := by rfl) (hv : bootBuiltins x = some (.builtin id) := by decide +kernel)
    (hs : NoStar X (e :: es) := by exact ⟨rfl, rfl, rfl, rfl, trivial⟩) (hn : x ≠ "__name__" := by decide) (hdb : (x == ("__debug__" : Str)) = false := by decide) (hpl : (backTo pos (starEach es X.env)).any (·.1) = false := by rfl) : DXF X c G (.Call (.Name x p) (e :: es) [] pos) (appX g m) := fun t d t' hd σ H Q E k => by
  obtain ⟨⟨ds, t1⟩, e1, e2⟩ := Option.bind_eq_some_iff.mp hd
  obtain ⟨z, e3, e4⟩ := Option.map_eq_some_iff.mp e2
  cases e4
  refine sE_of (pe_callB hc hg hm hv (pa_s hs) hn hdb hs.1 hpl) ?_
  exact ha t ds _ e1 σ H _ E fun vs H1 E1 s1 r1 => ⟨ds, d, .of r1, e3, fun a H2 xs hn s2 h2 r2 => k a H2 xs (s1.free E hn) (E1.same s2) (s1.trans (.of_same E1 s2)) h2 r2⟩
theorem dx_ix {a b : Expr} {ma mb : T → Option (D × T)} {pos : Pos} (ha : DX X c G a ma) (hb : DX X c G b mb) (hs : PlainIx b := by intro _ _; rfl) : DX X c G (.Subscript a b pos) (binX dIx ma mb) := fun t d t' hd σ H Q E k => by
  obtain ⟨⟨x, t1⟩, e1, e2⟩ := Option.bind_eq_some_iff.mp hd
  obtain ⟨⟨y, t2⟩, e3, e4⟩ := Option.bind_eq_some_iff.mp e2
  obtain ⟨z, e5, e6⟩ := Option.map_eq_some_iff.mp e4
  cases e6
  refine sE_of (pe_ix id_ix (pe_s a) (pe_s b) hs) ?_
  exact ha t x t1 e1 σ H _ E fun v H1 E1 s1 r1 => hb t1 y _ e3 σ H1 _ E1 fun u H2 E2 s2 r2 => ⟨x, y, d, .st (r1.mono (s2.mono E1)), .st r2, e5, fun w H3 s3 r3 => k w H3 (E2.same s3) ((s1.trans s2).trans (.of_same E2 s3)) r3⟩
end
end DL

set_option Elab.async false
set_option linter.all false
set_option maxRecDepth 100000
set_option maxHeartbeats 2000000
set_option autoImplicit false
namespace DL
open PySem PySem.Spec PyProof.Rows L2
/-! ### what is walked -/
/-- a tuple that is taken apart at once -/
def isTupG : Expr → Prop
  | .Tuple _ _ _ => True
  | _ => False
inductive RpG (tg : Expr) (K : Fr_) (H : Hp) : V → D → Prop
  | st {v : V} {d : D} (h : Rp K H v d) : RpG tg K H v d
  | tw {a : Addr} {xs : List V} {ds : List D} (t : isTupG tg) (h : SqT K H a xs) (r : RpA K H xs ds) : RpG tg K H (.ref a) (.tuple ds)
theorem RpG.tuple {tg : Expr} {K : Fr_} {H : Hp} {v : V} {ds : List D} (h : RpG tg K H v (.tuple ds)) : ∃ a xs, v = .ref a ∧ SqT K H a xs ∧ RpA K H xs ds := by
  cases h with
  | st h => exact RpW.tuple (.st h)
  | tw t h r => exact ⟨_, _, rfl, h, r⟩
theorem RpG.name {x : Str} {pos : Pos} {K : Fr_} {H : Hp} {v : V} {d : D} (h : RpG (.Name x pos) K H v d) : Rp K H v d := by
  cases h with
  | st h => exact h
  | tw t h r => exact t.elim
/-- an iterator over the data ds, as long as Gd stands -/
structure ItD (tg : Expr) (K : Fr_) (J : It) (ds : List D) (Gd : Hp → Prop) : Prop where
  goes : ∀ i H, i < ds.length → Gd H → J.go i H
  stops : ∀ H, Gd H → J.stop ds.length H
  yields : ∀ i H x H' d, ds[i]? = some d → Gd H → J.yld i H x H' → Same H H' ∧ RpG tg K H' x d
  stays : ∀ H H', Gd H → Mono H H' → Gd H'
section
variable (X : Cx) (c : FC)
def sI (tg iter : Expr) : TI := fun σ H R => ∀ (pins : List (Addr × Obj)) (s : Shared), Inv X pins σ H s → wpAny (model X.prog X.w) X.A (eval iter X.env) (fun v s1 => wpAny (model X.prog X.w) X.A (pyIter v) (PIE X pins σ tg R) X.xe s1) X.xe s
def DI (Γ : Env_) (tg iter : Expr) (m : Option (List D)) : Prop := ∀ ds, m = some ds → ∀ (σ : St) (H : Hp) (R : It → Hp → Prop), EnvOk X.K c σ H Γ → (∀ J H' Gd, Same H H' → ItD tg X.K J ds Gd → Gd H' → R J H') → sI X tg iter σ H R
def DXI {T : Type} (G : T → Env_) (tg iter : Expr) (m : T → Option (List D × T)) : Prop := ∀ t ds t', m t = some (ds, t') → ∀ (σ : St) (H : Hp) (R : It → Hp → Prop), EnvOk X.K c σ H (G t) → (∀ J H' Gd, EnvOk X.K c σ H' (G t') → Step (G t) (G t') σ H H' → ItD tg X.K J ds Gd → Gd H' → R J H') → sI X tg iter σ H R
end
section
variable {X : Cx} {c : FC}
theorem pi_s (tg iter : Expr) : PI X tg iter (sI X tg iter) := ⟨fun pins s _ _ _ I h => h pins s I⟩
theorem sI_of {tg iter : Expr} {wi : TI} {σ : St} {H : Hp} {R : It → Hp → Prop} (h : PI X tg iter wi) (q : wi σ H R) : sI X tg iter σ H R := fun pins s I => h.run pins s σ H R I q
theorem pi_or {tg iter : Expr} {w1 w2 : TI} (h1 : PI X tg iter w1) (h2 : PI X tg iter w2) : PI X tg iter (fun σ H R => w1 σ H R ∨ w2 σ H R) := ⟨fun pins s σ H R I h => h.elim (h1.run pins s σ H R I) (h2.run pins s σ H R I)⟩
theorem pi_seq {tg l : Expr} {tl : TE} (hl : PE X l tl) : PI X tg l (fun σ H R => tl σ H fun x H1 => ∃ a, x = .ref a ∧ (((∃ xs, SqL X.K H1 a xs) ∧ R (Itl X.K a) H1) ∨ ((∃ xs, SqT X.K H1 a xs) ∧ R (Itt X.K a) H1))) := by
  refine ⟨fun pins s σ H R I h => ?_⟩
  refine thn (hl.run pins s σ H _ I h) fun v s1 ⟨x, H1, I1, r1, a, e, q⟩ => ?_
  have base : ∀ wi : TI, PI X tg (.Constant .none 0 ⟨0, 0, 0, 0⟩) wi → True := fun _ _ => trivial
  subst e
  cases r1
  rcases q with ⟨⟨xs, hq⟩, q⟩ | ⟨⟨xs, hq⟩, q⟩
  · obtain ⟨its, rv, p, hz⟩ := I1.list hq
    refine wpAny_pyIter_list p.isList (pi_one (tk := s1.toks) I1 _ (turn_list a _) ⟨_, Heap.get?_push_size _ rfl, rfl, rfl⟩ q)
  · obtain ⟨its, rv, p, hz⟩ := I1.tuple hq
    refine wpAny_pyIter_tuple (show s1.heap.IsTuple a its.toArray from p) (pi_one (tk := s1.toks) I1 _ (turn_tuple a _) ⟨_, Heap.get?_push_size _ rfl, rfl, rfl⟩ q)
def iterD : D → Option (List D)
  | .list ds => some ds
  | .tuple ds => some ds
  | _ => none
theorem itd_list {tg : Expr} {K : Fr_} {a : Addr} {xs : List V} {ds : List D} : ItD tg K (Itl K a) ds (fun H => Fz K H a xs ∧ RpA K H xs ds) where
  goes := fun i H hi ⟨h, r⟩ => by
    have hi' : i < xs.length := by rw [r.length]; exact hi
    exact ⟨xs, xs[i], h.sq, List.getElem?_eq_getElem hi'⟩
  stops := fun H ⟨h, r⟩ => ⟨xs, h.sq, by rw [r.length]; exact Nat.le_refl _⟩
  yields := fun i H x H' d hd ⟨h, r⟩ ⟨e, y⟩ => by
    subst e
    obtain ⟨v, h1, h2⟩ := r.get hd
    have := y xs h.sq
    rw [h1] at this
    cases this
    exact ⟨Same.refl _, .st h2⟩
  stays := fun H H' ⟨h, r⟩ m => ⟨m.fz h, r.mono m⟩
theorem itd_tup {tg : Expr} {K : Fr_} {a : Addr} {xs : List V} {ds : List D} : ItD tg K (Itt K a) ds (fun H => SqT K H a xs ∧ RpA K H xs ds) where
  goes := fun i H hi ⟨h, r⟩ => by
    have hi' : i < xs.length := by rw [r.length]; exact hi
    exact ⟨xs, xs[i], h, List.getElem?_eq_getElem hi'⟩
  stops := fun H ⟨h, r⟩ => ⟨xs, h, by rw [r.length]; exact Nat.le_refl _⟩
  yields := fun i H x H' d hd ⟨h, r⟩ ⟨e, y⟩ => by
    subst e
    obtain ⟨v, h1, h2⟩ := r.get hd
    have := y xs h
    rw [h1] at this
    cases this
    exact ⟨Same.refl _, .st h2⟩
  stays := fun H H' ⟨h, r⟩ m => ⟨m.sqT h, r.mono m⟩
/-- the ints lo, lo + 1, .. below hi -/
def rangeL (lo hi : Int) : List D := (List.range (hi - lo).toNat).map fun i => .int (lo + (i : Nat))
theorem rangeL_len (lo hi : Int) : (rangeL lo hi).length = (hi - lo).toNat := by unfold rangeL; rw [List.length_map, List.length_range]
theorem rangeL_get {lo hi : Int} {i : Nat} {d : D} (h : (rangeL lo hi)[i]? = some d) : d = .int (lo + (i : Nat)) ∧ i < (hi - lo).toNat := by
  have hl := (List.getElem?_eq_some_iff.mp h).1
  rw [rangeL_len] at hl
  unfold rangeL at h
  rw [List.getElem?_map, List.getElem?_range hl] at h
  cases h
  exact ⟨rfl, hl⟩
theorem itd_range {tg : Expr} {K : Fr_} {lo hi : Int} : ItD tg K (Itr lo (hi - lo).toNat) (rangeL lo hi) (fun _ => True) where
  goes := fun i H hl _ => by rw [rangeL_len] at hl; exact hl
  stops := fun H _ => by
    show (hi - lo).toNat ≤ (rangeL lo hi).length
    rw [rangeL_len]
    exact Nat.le_refl _
  yields := fun i H x H' d hd _ ⟨e, y⟩ => by
    subst e
    obtain ⟨rfl, _⟩ := rangeL_get hd
    subst y
    exact ⟨Same.refl _, .st (.int _)⟩
  stays := fun _ _ _ _ => trivial
/-- small enough for a range -/
noncomputable def rOk (i : Int) : Bool := cl (-(2 ^ 62) ≤ i ∧ i < 2 ^ 62)
theorem rOk_iff {i : Int} (h : rOk i = true) : -(2 ^ 62) ≤ i ∧ i < 2 ^ 62 := cl_iff.mp h
noncomputable def dR1 : D → Option (List D)
  | .int b => if rOk b then some (rangeL 0 b) else none
  | _ => none
noncomputable def dR2 : D → D → Option (List D)
  | .int a, .int b => if rOk a && rOk b then some (rangeL a b) else none
  | _, _ => none
theorem itd_range0 {tg : Expr} {K : Fr_} {b : Int} : ItD tg K (Itr 0 b.toNat) (rangeL 0 b) (fun _ => True) := by
  have q := itd_range (tg := tg) (K := K) (lo := 0) (hi := b)
  rw [show b - 0 = b by omega] at q
  exact q
section
variable {Γ : Env_}
theorem seq_go {tg : Expr} {σ : St} {H H1 : Hp} {R : It → Hp → Prop} {v : V} {x : D} {ds : List D} (r1 : Rp X.K H1 v x) (e2 : iterD x = some ds) (k : ∀ J Gd, ItD tg X.K J ds Gd → Gd H1 → R J H1) :
    ∃ a, v = V.ref a ∧ (((∃ xs, SqL X.K H1 a xs) ∧ R (Itl X.K a) H1) ∨ ((∃ xs, SqT X.K H1 a xs) ∧ R (Itt X.K a) H1)) := by
  cases r1 with
  | lst h r =>
    cases e2
    exact ⟨_, rfl, .inl ⟨⟨_, h.sq⟩, k _ _ itd_list ⟨h, r⟩⟩⟩
  | tup h r =>
    cases e2
    exact ⟨_, rfl, .inr ⟨⟨_, h.sq⟩, k _ _ itd_tup ⟨h.sq, r⟩⟩⟩
  | _ => cases e2
/-- what is walked: also a text's signs, a dict's keys -/
def iterS : D → Option (List D)
  | .list ds => some ds
  | .tuple ds => some ds
  | .str z => some (z.cps.toList.map fun ch => .str ⟨#[ch]⟩)
  | .dict kvs => some (kvs.map (·.1))
  | _ => none
theorem itd_str {tg : Expr} {K : Fr_} {z : Str} : ItD tg K (Its z) (z.cps.toList.map fun ch => .str ⟨#[ch]⟩) (fun _ => True) where
  goes := fun i H hi _ => by
    rw [List.length_map, Array.length_toList] at hi
    exact hi
  stops := fun H _ => by
    show z.cps.size ≤ _
    rw [List.length_map, Array.length_toList]
    exact Nat.le_refl _
  yields := fun i H x H' d hd _ y => by
    obtain ⟨rfl, ch, h1, rfl⟩ := y
    rw [List.getElem?_map] at hd
    obtain ⟨ch', h2, rfl⟩ := Option.map_eq_some_iff.mp hd
    rw [Array.getElem?_toList, h1] at h2
    cases h2
    exact ⟨Same.refl _, .st (.str _)⟩
  stays := fun _ _ _ _ => trivial
theorem rp_key {K : Fr_} {H : Hp} (k : Key) : Rp K H (kV k) (keyD k) := by
  cases k with
  | inl i => exact .int i
  | inr x => exact .str x
theorem itd_keys {tg : Expr} {K : Fr_} {d : Addr} {o : Obj} {ws : List (Key × V)} : ItD tg K (Itk d o ws) (ws.map fun p => keyD p.1) (fun H => H d = some (.frz o (.dK ws))) where
  goes := fun i H hi g => ⟨g, by rw [List.length_map] at hi; exact hi⟩
  stops := fun H g => ⟨g, by rw [List.length_map]; exact Nat.le_refl _⟩
  yields := fun i H x H' e he g ⟨h1, k, v, h2, h3⟩ => by
    subst h1 h3
    rw [List.getElem?_map, h2] at he
    cases he
    exact ⟨Same.refl _, .st (rp_key k)⟩
  stays := fun H H' g m => m.frz _ _ _ g
theorem any_go {tg : Expr} {H1 : Hp} {R : It → Hp → Prop} {v : V} {x : D} {ds : List D} (r1 : Rp X.K H1 v x) (e2 : iterS x = some ds) (k : ∀ J Gd, ItD tg X.K J ds Gd → Gd H1 → R J H1) :
    ((∃ a, v = V.ref a ∧ (((∃ xs, SqL X.K H1 a xs) ∧ R (Itl X.K a) H1) ∨ ((∃ xs, SqT X.K H1 a xs) ∧ R (Itt X.K a) H1))) ∨ (∃ z, v = .str z ∧ R (Its z) H1)) ∨
    ∃ d o, v = .ref d ∧ ((∃ kvs, H1 d = some (.frz o (.dK kvs)) ∧ R (Itk d o kvs) H1) ∨ ∃ kvs, H1 d = some (.frz o (.dT kvs)) ∧ R (Itkt d o kvs) H1) := by
  cases r1 with
  | lst h r =>
    cases e2
    exact .inl (.inl ⟨_, rfl, .inl ⟨⟨_, h.sq⟩, k _ _ itd_list ⟨h, r⟩⟩⟩)
  | tup h r =>
    cases e2
    exact .inl (.inl ⟨_, rfl, .inr ⟨⟨_, h.sq⟩, k _ _ itd_tup ⟨h.sq, r⟩⟩⟩)
  | str z =>
    cases e2
    exact .inl (.inr ⟨z, rfl, k _ _ itd_str trivial⟩)
  | dct h e r =>
    cases e2
    obtain ⟨o, h⟩ := h
    refine .inr ⟨_, o, rfl, .inl ⟨_, h, ?_⟩⟩
    exact k _ _ (by rw [← e]; exact itd_keys) h
  | _ => cases e2
/-- the value is handed to its iterator -/
theorem pi_val {tg e : Expr} {te : TE} (he : PE X e te) : PI X tg e (fun σ H R => te σ H fun v H1 =>
    ((∃ a, v = V.ref a ∧ (((∃ xs, SqL X.K H1 a xs) ∧ R (Itl X.K a) H1) ∨ ((∃ xs, SqT X.K H1 a xs) ∧ R (Itt X.K a) H1))) ∨ (∃ z, v = .str z ∧ R (Its z) H1)) ∨
    ∃ d o, v = .ref d ∧ ((∃ kvs, H1 d = some (.frz o (.dK kvs)) ∧ R (Itk d o kvs) H1) ∨ ∃ kvs, H1 d = some (.frz o (.dT kvs)) ∧ R (Itkt d o kvs) H1)) := by
  refine ⟨fun pins s σ H R I h => ?_⟩
  refine thn (he.run pins s σ H _ I h) fun u s1 ⟨v, H1, I1, rv, q⟩ => ?_
  rcases q with (⟨a, e, q⟩ | ⟨z, e, q⟩) | ⟨d, o, e, q⟩
  · subst e
    cases rv
    rcases q with ⟨⟨xs, hq⟩, q⟩ | ⟨⟨xs, hq⟩, q⟩
    · obtain ⟨its, rv, p, hz⟩ := I1.list hq
      refine wpAny_pyIter_list p.isList (pi_one (tk := s1.toks) I1 _ (turn_list a _) ⟨_, Heap.get?_push_size _ rfl, rfl, rfl⟩ q)
    · obtain ⟨its, rv, p, hz⟩ := I1.tuple hq
      refine wpAny_pyIter_tuple (show s1.heap.IsTuple a its.toArray from p) (pi_one (tk := s1.toks) I1 _ (turn_tuple a _) ⟨_, Heap.get?_push_size _ rfl, rfl, rfl⟩ q)
  · subst e
    obtain ⟨t, rfl⟩ := rv
    cases ha : z.cps.all (· < 128)
    · exact wpAny_pyIter_wide ha (pi_one (tk := s1.toks) I1 _ (turn_str _ z t "str_iterator" (.inr rfl)) ⟨_, Heap.get?_push_size _ rfl, rfl, rfl⟩ q)
    · exact wpAny_pyIter_ascii ha (pi_one (tk := s1.toks) I1 _ (turn_str _ z t "str_ascii_iterator" (.inl rfl)) ⟨_, Heap.get?_push_size _ rfl, rfl, rfl⟩ q)
  · subst e
    obtain rfl : u = Value.ref d := rv
    rcases q with ⟨kvs, hd, q⟩ | ⟨kvs, hd, q⟩
    · obtain ⟨hs, hgd, hx, es, ep, vs, hdt, hsz, kv, hm⟩ := I1.frzK hd
      refine iter_keys hs hgd hx hdt (pi_one (tk := s1.toks) I1 _ (turn_keys _ hdt) ⟨_, Heap.get?_push_size _ rfl, rfl, ?_⟩ q)
      rw [hsz] <;> rfl
    · obtain ⟨hs, hgd, hx, es, ep, hdt, hsz, ent⟩ := I1.frzT hd
      refine iter_keys hs hgd hx hdt (pi_one (tk := s1.toks) I1 _ (turn_keysT _ hdt) ⟨_, Heap.get?_push_size _ rfl, rfl, ?_⟩ q)
      rw [hsz] <;> rfl
theorem di_seq {tg e : Expr} {m : Option D} (h : DE X c Γ e m) : DI X c Γ tg e (m.bind iterS) := fun ds hd σ H R E k => by
  obtain ⟨x, e1, e2⟩ := Option.bind_eq_some_iff.mp hd
  exact sI_of (pi_val (pe_s e)) (h x e1 σ H _ E fun v H1 s1 r1 => any_go r1 e2 fun J Gd i g => k J H1 Gd s1 i g)
/-! over a list that a slot holds, as long as nothing changes -/
structure ItW (tg : Expr) (K : Fr_) (J : It) (ds : List D) (Gd : Hp → Prop) : Prop where
  goes : ∀ i H, i < ds.length → Gd H → J.go i H
  stops : ∀ H, Gd H → J.stop ds.length H
  yields : ∀ i H x H' d, ds[i]? = some d → Gd H → J.yld i H x H' → Same H H' ∧ RpG tg K H' x d
  stays : ∀ H H', Gd H → Same H H' → Gd H'
theorem ItD.w {tg : Expr} {K : Fr_} {J : It} {ds : List D} {Gd : Hp → Prop} (i : ItD tg K J ds Gd) : ItW tg K J ds Gd := ⟨i.goes, i.stops, i.yields, fun H H' g s => i.stays H H' g (.of_same s)⟩
def DIw (X : Cx) (c : FC) (Γ : Env_) (tg iter : Expr) (m : Option (List D)) : Prop := ∀ ds, m = some ds → ∀ (σ : St) (H : Hp) (R : It → Hp → Prop), EnvOk X.K c σ H Γ → (∀ J H' Gd, Same H H' → ItW tg X.K J ds Gd → Gd H' → R J H') → sI X tg iter σ H R
theorem DI.w {tg iter : Expr} {m : Option (List D)} (h : DI X c Γ tg iter m) : DIw X c Γ tg iter m := fun ds hd σ H R E k => h ds hd σ H R E fun J H' Gd s i g => k J H' Gd s i.w g
theorem itw_own {tg : Expr} {K : Fr_} {a : Addr} {xs : List V} {ds : List D} : ItW tg K (Itl K a) ds (fun H => H a = some (.lst xs) ∧ RpA K H xs ds) where
  goes := fun i H hi ⟨h, r⟩ => by
    have hi' : i < xs.length := by rw [r.length]; exact hi
    exact ⟨xs, xs[i], SqL.of h, List.getElem?_eq_getElem hi'⟩
  stops := fun H ⟨h, r⟩ => ⟨xs, SqL.of h, by rw [r.length]; exact Nat.le_refl _⟩
  yields := fun i H x H' d hd ⟨h, r⟩ ⟨e, y⟩ => by
    subst e
    obtain ⟨v, h1, h2⟩ := r.get hd
    have y1 := y xs (SqL.of h)
    rw [h1] at y1
    cases y1
    exact ⟨Same.refl _, .st h2⟩
  stays := fun H H' ⟨h, r⟩ s => ⟨s _ _ h, r.mono (.of_same s)⟩
def iterT : D → Option (List D)
  | .dict _ => none
  | d => iterS d
theorem iterT_S {d : D} {ds : List D} (h : iterT d = some ds) : iterS d = some ds := by
  cases d <;> first | exact h | cases h
theorem diw_own {tg e : Expr} {m : Option D} (h : DW X c Γ e m) : DIw X c Γ tg e (m.bind iterT) := fun ds hd σ H R E k => by
  obtain ⟨x, e1, e2⟩ := Option.bind_eq_some_iff.mp hd
  refine sI_of (pi_val (pe_s e)) (h x e1 σ H _ E fun v H1 s1 r1 => ?_)
  cases r1 with
  | st r1 => exact any_go r1 (iterT_S e2) fun J Gd i g => k J H1 Gd s1 i.w g
  | ow h r =>
    cases e2
    exact .inl (.inl ⟨_, rfl, .inl ⟨⟨_, SqL.of h⟩, k _ _ _ s1 itw_own ⟨h, r⟩⟩⟩)
  | od h r => cases e2
theorem r1_go {tg : Expr} {H1 : Hp} {R : It → Hp → Prop} {v : V} {x : D} {ds : List D} (r1 : RpW X.K H1 v x) (e2 : dR1 x = some ds) (k : ∀ J Gd, ItD tg X.K J ds Gd → Gd H1 → R J H1) : ∃ j : Int, v = .int j ∧ -(2 ^ 62) ≤ j ∧ j < 2 ^ 62 ∧ R (Itr 0 j.toNat) H1 := by
  unfold dR1 at e2
  split at e2
  · split at e2
    · rename_i hb
      cases e2
      obtain ⟨b1, b2⟩ := rOk_iff hb
      exact ⟨_, r1.int, b1, b2, k _ _ itd_range0 trivial⟩
    · cases e2
  · cases e2
theorem r2_go {tg : Expr} {H1 : Hp} {R : It → Hp → Prop} {v u : V} {x y : D} {ds : List D} (r1 : RpW X.K H1 v x) (r2 : RpW X.K H1 u y) (e2 : dR2 x y = some ds) (k : ∀ J Gd, ItD tg X.K J ds Gd → Gd H1 → R J H1) :
    ∃ i j : Int, v = .int i ∧ u = .int j ∧ (-(2 ^ 62) ≤ i ∧ i < 2 ^ 62 ∧ -(2 ^ 62) ≤ j ∧ j < 2 ^ 62) ∧ R (Itr i (j - i).toNat) H1 := by
  unfold dR2 at e2
  split at e2
  · split at e2
    · rename_i hb
      cases e2
      obtain ⟨h1, h2⟩ := Bool.and_eq_true_iff.mp hb
      obtain ⟨b1, b2⟩ := rOk_iff h1
      obtain ⟨b3, b4⟩ := rOk_iff h2
      exact ⟨_, _, r1.int, r2.int, ⟨b1, b2, b3, b4⟩, k _ _ itd_range trivial⟩
    · cases e2
  · cases e2
theorem di_range1 {tg a : Expr} {m : Option D} {p pos : Pos} (hm : X.mg "range" = none) (ha : DE X c Γ a m) (hg : Gl X "range" := by rfl) (hs : starEach [a] X.env = [(false, eval a X.env)] := by rfl) : DI X c Γ tg (.Call (.Name "range" p) [a] [] pos) (m.bind dR1) := fun ds hd σ H R E k => by
  obtain ⟨x, e1, e2⟩ := Option.bind_eq_some_iff.mp hd
  refine sI_of (pi_range1 hg hm (pa_s ⟨hs, trivial⟩) hs) (ha x e1 σ H _ E fun v H1 s1 r1 => ?_)
  obtain ⟨j, e, b1, b2, q⟩ := r1_go (.st r1) e2 fun J Gd i g => k J H1 Gd s1 i g
  exact ⟨j, by rw [e], b1, b2, q⟩
theorem di_range2 {tg a b : Expr} {ma mb : Option D} {p pos : Pos} (hm : X.mg "range" = none) (ha : DE X c Γ a ma) (hb : DE X c Γ b mb) (hg : Gl X "range" := by rfl) (hs : starEach [a, b] X.env = [(false, eval a X.env), (false, eval b X.env)] := by rfl) (hs2 : starEach [b] X.env = [(false, eval b X.env)] := by rfl) :
    DI X c Γ tg (.Call (.Name "range" p) [a, b] [] pos) (ma.bind fun x => mb.bind fun y => dR2 x y) := fun ds hd σ H R E k => by
  obtain ⟨x, e1, e2⟩ := Option.bind_eq_some_iff.mp hd
  obtain ⟨y, e3, e4⟩ := Option.bind_eq_some_iff.mp e2
  refine sI_of (pi_range2 hg hm (pa_s ⟨by rw [hs, hs2], hs2, trivial⟩) hs hs2) (ha x e1 σ H _ E fun v H1 s1 r1 => hb y e3 σ H1 _ (E.same s1) fun u H2 s2 r2 => ?_)
  obtain ⟨i, j, ei, ej, b1, q⟩ := r2_go (.st (r1.mono (.of_same s2))) (.st r2) e4 fun J Gd i g => k J H2 Gd (s1.trans s2) i g
  exact ⟨i, j, by rw [ei, ej], b1, q⟩
theorem di_str {tg e : Expr} {m : Option D} (h : DE X c Γ e m) : DI X c Γ tg e (m.bind fun d => match d with | .str z => some (z.cps.toList.map fun ch => .str ⟨#[ch]⟩) | _ => none) := fun ds hd σ H R E k => by
  obtain ⟨x, e1, e2⟩ := Option.bind_eq_some_iff.mp hd
  split at e2
  · rename_i z
    cases e2
    refine sI_of (pi_str (pe_s e)) (h _ e1 σ H _ E fun v H1 s1 r1 => ⟨z, RpW.str (.st r1), k _ H1 (fun _ => True) s1 ⟨fun i H hi _ => ?_, fun H _ => ?_, fun i H x H' d hd _ y => ?_, fun _ _ _ _ => trivial⟩ trivial⟩)
    · rw [List.length_map, Array.length_toList] at hi
      exact hi
    · show z.cps.size ≤ _
      rw [List.length_map, Array.length_toList]
      exact Nat.le_refl _
    · obtain ⟨rfl, ch, h1, rfl⟩ := y
      rw [List.getElem?_map] at hd
      obtain ⟨ch', h2, rfl⟩ := Option.map_eq_some_iff.mp hd
      rw [Array.getElem?_toList, h1] at h2
      cases h2
      exact ⟨Same.refl _, .st (.str _)⟩
  · cases e2
end
section
variable {T : Type} {G : T → Env_}
theorem dxi_lift {tg e : Expr} {m : T → Option (List D)} (h : ∀ t, DI X c (G t) tg e (m t)) : DXI X c G tg e (liftX m) := fun t d t' hd σ H R E k => by
  obtain ⟨e1, rfl⟩ := liftX_eq hd
  exact h _ d e1 σ H R E fun J H' Gd s i g => k J H' Gd (E.same s) (.of_same E s) i g
def bindX {α β : Type} (m : T → Option (α × T)) (g : α → Option β) : T → Option (β × T) := fun t => (m t).bind fun p => (g p.1).map fun z => (z, p.2)
theorem bindX_eq {α β : Type} {m : T → Option (α × T)} {g : α → Option β} {t t' : T} {z : β} (h : bindX m g t = some (z, t')) : ∃ x, m t = some (x, t') ∧ g x = some z := by
  obtain ⟨⟨x, t1⟩, e1, e2⟩ := Option.bind_eq_some_iff.mp h
  obtain ⟨w, e3, e4⟩ := Option.map_eq_some_iff.mp e2
  cases e4
  exact ⟨x, e1, e3⟩
theorem dxi_seq {tg e : Expr} {m : T → Option (D × T)} (h : DX X c G e m) : DXI X c G tg e (bindX m iterS) := fun t ds t' hd σ H R E k => by
  obtain ⟨x, e1, e2⟩ := bindX_eq hd
  exact sI_of (pi_val (pe_s e)) (h t x t' e1 σ H _ E fun v H1 E1 s1 r1 => any_go r1 e2 fun J Gd i g => k J H1 Gd E1 s1 i g)
theorem dxi_range1 {tg a : Expr} {m : T → Option (D × T)} {p pos : Pos} (hm : X.mg "range" = none) (ha : DX X c G a m) (hg : Gl X "range" := by rfl) (hs : starEach [a] X.env = [(false, eval a X.env)] := by rfl) : DXI X c G tg (.Call (.Name "range" p) [a] [] pos) (bindX m dR1) := fun t ds t' hd σ H R E k => by
  obtain ⟨x, e1, e2⟩ := bindX_eq hd
  refine sI_of (pi_range1 hg hm (pa_s ⟨hs, trivial⟩) hs) (ha t x t' e1 σ H _ E fun v H1 E1 s1 r1 => ?_)
  obtain ⟨j, e, b1, b2, q⟩ := r1_go (.st r1) e2 fun J Gd i g => k J H1 Gd E1 s1 i g
  exact ⟨j, by rw [e], b1, b2, q⟩
end
/-! targets -/
def sG (X : Cx) (tg : Expr) : TG := fun v σ H Q => ∀ (pins : List (Addr × Obj)) (s : Shared) (u : Value), Inv X pins σ H s → RelV v u → wpAny (model X.prog X.w) X.A (assign tg X.env u) (fun _ s' => ∃ σ' H', Inv X pins σ' H' s' ∧ Q σ' H') X.xe s
theorem pg_s (tg : Expr) : PG X tg (sG X tg) := ⟨fun pins s _ _ _ u _ I r h => h pins s u I r⟩
theorem sG_of {tg : Expr} {g : TG} {v : V} {σ : St} {H : Hp} {Q : St → Hp → Prop} (h : PG X tg g) (q : g v σ H Q) : sG X tg v σ H Q := fun pins s u I r => h.run pins s σ H v u Q I r q
/-- only the slots js changed -/
def OnlyAt (js : List Nat) (σ σ' : St) : Prop := σ'.length = σ.length ∧ ∀ i, i ∉ js → σ'[i]? = σ[i]?
theorem OnlyAt.trans {js ks : List Nat} {σ σ1 σ2 : St} (a : OnlyAt js σ σ1) (b : OnlyAt ks σ1 σ2) : OnlyAt (js ++ ks) σ σ2 := ⟨b.1.trans a.1, fun i hi => (b.2 i fun z => hi (List.mem_append_right _ z)).trans (a.2 i fun z => hi (List.mem_append_left _ z))⟩
theorem OnlyAt.set {i : Nat} {σ : St} {o : Option V} : OnlyAt [i] σ (σ.set i o) := ⟨List.length_set, fun j hj => List.getElem?_set_ne fun e => hj (by rw [e]; exact List.mem_cons_self)⟩
/-- a value of data x goes into tg: pm takes it apart, Gt tells the slots behind -/
def DG {P : Type} (X : Cx) (c : FC) (js : List Nat) (Γ : Env_) (tg : Expr) (pm : D → Option P) (Gt : P → Env_) : Prop :=
  ∀ x p, pm x = some p → ∀ (v : V) (σ : St) (H : Hp) (Q : St → Hp → Prop), EnvOk X.K c σ H Γ → RpG tg X.K H v x → (∀ σ', EnvOk X.K c σ' H (Gt p) → OnlyAt js σ σ' → Q σ' H) → sG X tg v σ H Q
theorem noPin {i : Nat} (h : (c.M.map (·.1)).contains i = false) : ∀ p ∈ c.M, p.1 ≠ i := fun p hp e => by
  subst e
  have : p.1 ∈ c.M.map (·.1) := List.mem_map.mpr ⟨p, hp, rfl⟩
  rw [← List.contains_iff_mem] at this
  rw [h] at this
  cases this
theorem dg_name (i : Nat) {Γ : Env_} {x : Str} {pos : Pos} (hN : X.N.Nodup) (hi : X.N[i]? = some x := by rfl) (hx : Loc X.env.scope x := by first | exact Or.inl rfl | exact Or.inr rfl) (hm : (c.M.map (·.1)).contains i = false := by rfl) (hf : X.fn x = true ∨ X.env.scope.names.lookup x = some .local := by first | exact .inl rfl | exact .inr rfl) :
    DG X c [i] Γ (.Name x pos) some (fun d => Γ.set i (.imm d)) := fun x' p hp v σ H Q E r k => by
  cases hp
  exact sG_of (pg_name hN hi hx hf) (k _ (E.setImm r.name (noPin hm)) OnlyAt.set)
def un2 {P Q : Type} (p1 : D → Option P) (p2 : D → Option Q) : D → Option (P × Q)
  | .tuple [a, b] => (p1 a).bind fun u => (p2 b).map fun w => (u, w)
  | _ => none
def un3 {P Q R : Type} (p1 : D → Option P) (p2 : D → Option Q) (p3 : D → Option R) : D → Option (P × Q × R)
  | .tuple [a, b, d] => (p1 a).bind fun u => (p2 b).bind fun w => (p3 d).map fun z => (u, w, z)
  | _ => none
theorem dg_tup2 {P1 P2 : Type} {js ks : List Nat} {Γ : Env_} {e1 e2 : Expr} {k1 : Nat} {pos : Pos} {p1 : D → Option P1} {p2 : D → Option P2} {G1 : P1 → Env_} {G2 : P1 → P2 → Env_} (hc : X.calm = true) (h1 : DG X c js Γ e1 p1 G1) (h2 : ∀ a, DG X c ks (G1 a) e2 p2 (G2 a))
    (n1 : assignEach [e1, e2] X.env = [(false, assign e1 X.env), (false, assign e2 X.env)] := by rfl) (n2 : assignEach [e2] X.env = [(false, assign e2 X.env)] := by rfl) :
    DG X c (js ++ ks) Γ (.Tuple [e1, e2] k1 pos) (un2 p1 p2) (fun q => G2 q.1 q.2) := fun x p hp v σ H Q E r k => by
  unfold un2 at hp
  split at hp
  · rename_i a b
    obtain ⟨u, e3, e4⟩ := Option.bind_eq_some_iff.mp hp
    obtain ⟨w, e5, rfl⟩ := Option.map_eq_some_iff.mp e4
    obtain ⟨ad, xs, rfl, hq, rr⟩ := r.tuple
    cases rr with
    | cons ra rr =>
      cases rr with
      | cons rb rr =>
        cases rr
        refine sG_of (pg_tup hc (pgs_cons (pg_s e1) (pgs_cons (pg_s e2) pgs_nil (by rw [n2] <;> rfl)) (by rw [n1, n2] <;> rfl)) (by rw [n1] <;> rfl) (by rw [n1] <;> rfl)) ⟨ad, _, rfl, hq, rfl, _, _, rfl, ?_⟩
        exact h1 a u e3 _ σ H _ E (.st ra) fun σ1 E1 o1 => ⟨_, _, rfl, h2 u b w e5 _ σ1 H _ E1 (.st rb) fun σ2 E2 o2 => ⟨rfl, k σ2 E2 (o1.trans o2)⟩⟩
  · cases hp
theorem dg_tup3 {P1 P2 P3 : Type} {js ks ls : List Nat} {Γ : Env_} {e1 e2 e3 : Expr} {k1 : Nat} {pos : Pos} {p1 : D → Option P1} {p2 : D → Option P2} {p3 : D → Option P3} {G1 : P1 → Env_} {G2 : P1 → P2 → Env_} {G3 : P1 → P2 → P3 → Env_} (hc : X.calm = true) (h1 : DG X c js Γ e1 p1 G1) (h2 : ∀ a, DG X c ks (G1 a) e2 p2 (G2 a)) (h3 : ∀ a b, DG X c ls (G2 a b) e3 p3 (G3 a b))
    (n1 : assignEach [e1, e2, e3] X.env = [(false, assign e1 X.env), (false, assign e2 X.env), (false, assign e3 X.env)] := by rfl) (n2 : assignEach [e2, e3] X.env = [(false, assign e2 X.env), (false, assign e3 X.env)] := by rfl) (n3 : assignEach [e3] X.env = [(false, assign e3 X.env)] := by rfl) :
    DG X c ((js ++ ks) ++ ls) Γ (.Tuple [e1, e2, e3] k1 pos) (un3 p1 p2 p3) (fun q => G3 q.1 q.2.1 q.2.2) := fun x p hp v σ H Q E r k => by
  unfold un3 at hp
  split at hp
  · rename_i a b d
    obtain ⟨u, e4, e5⟩ := Option.bind_eq_some_iff.mp hp
    obtain ⟨w, e6, e7⟩ := Option.bind_eq_some_iff.mp e5
    obtain ⟨z, e8, rfl⟩ := Option.map_eq_some_iff.mp e7
    obtain ⟨ad, xs, rfl, hq, rr⟩ := r.tuple
    cases rr with
    | cons ra rr =>
      cases rr with
      | cons rb rr =>
        cases rr with
        | cons rd rr =>
          cases rr
          refine sG_of (pg_tup hc (pgs_cons (pg_s e1) (pgs_cons (pg_s e2) (pgs_cons (pg_s e3) pgs_nil (by rw [n3] <;> rfl)) (by rw [n2, n3] <;> rfl)) (by rw [n1, n2] <;> rfl)) (by rw [n1] <;> rfl) (by rw [n1] <;> rfl)) ⟨ad, _, rfl, hq, rfl, _, _, rfl, ?_⟩
          exact h1 a u e4 _ σ H _ E (.st ra) fun σ1 E1 o1 => ⟨_, _, rfl, h2 u b w e6 _ σ1 H _ E1 (.st rb) fun σ2 E2 o2 => ⟨_, _, rfl, h3 u w d z e8 _ σ2 H _ E2 (.st rd) fun σ3 E3 o3 => ⟨rfl, k σ3 E3 ((o1.trans o2).trans o3)⟩⟩⟩
  · cases hp
end
end DL

set_option Elab.async false
set_option linter.all false
set_option maxRecDepth 100000
set_option maxHeartbeats 2000000
set_option autoImplicit false
namespace DL
open PySem PySem.Spec PyProof.Rows L2
/-! ### statements -/
/-- how a block ends -/
inductive Fl (N B R : Type) where
  | nx (n : N) | bk (b : B) | ct (b : B) | rt (r : R)
structure Fin_ (K : Fr_) (c : FC) {N B R : Type} (GN : N → Env_) (GB : B → Env_) (RK : R → V → Hp → Prop) (H : Hp) (o : Fl N B R) (D : Ends) : Prop where
  nx : ∀ n, o = .nx n → ∀ σ' H', EnvOk K c σ' H' (GN n) → Mono H H' → D.nx σ' H'
  bk : ∀ b, o = .bk b → ∀ σ' H', EnvOk K c σ' H' (GB b) → Mono H H' → D.bk σ' H'
  ct : ∀ b, o = .ct b → ∀ σ' H', EnvOk K c σ' H' (GB b) → Mono H H' → D.ct σ' H'
  rt : ∀ r, o = .rt r → ∀ v H', RK r v H' → D.rt v H'
theorem Fin_.mono {K : Fr_} {c : FC} {N B R : Type} {GN : N → Env_} {GB : B → Env_} {RK : R → V → Hp → Prop} {H H1 : Hp} {o : Fl N B R} {D : Ends} (f : Fin_ K c GN GB RK H o D) (m : Mono H H1) : Fin_ K c GN GB RK H1 o D :=
  ⟨fun n e σ' H' E m' => f.nx n e σ' H' E (m.trans m'), fun n e σ' H' E m' => f.bk n e σ' H' E (m.trans m'), fun n e σ' H' E m' => f.ct n e σ' H' E (m.trans m'), f.rt⟩
/-- the block sts ends as m tells -/
def DB (X : Cx) (c : FC) {N B R : Type} (GN : N → Env_) (GB : B → Env_) (RK : R → V → Hp → Prop) (Γ : Env_) (sts : List Stmt) (m : Option (Fl N B R)) : Prop :=
  ∀ o, m = some o → ∀ (σ : St) (H : Hp) (D : Ends), EnvOk X.K c σ H Γ → Fin_ X.K c GN GB RK H o D → sSs X sts D σ H
/-- the lists handed in stay held by their slots -/
def pinsIn (is : List Nat) (Γ : Env_) : Bool := is.all fun i => match Γ[i]? with
  | some (.own _) => true
  | _ => false
theorem pinsIn_iff {c : FC} {Γ : Env_} (h : pinsIn (c.M.map (·.1)) Γ = true) : ∀ p ∈ c.M, ∃ k : Cell, Γ[p.1]? = some k ∧ k.isOwn = true := fun p hp => by
  have h1 := List.all_eq_true.mp h p.1 (List.mem_map.mpr ⟨p, hp, rfl⟩)
  split at h1
  · rename_i ds e
    exact ⟨_, e, rfl⟩
  · cases h1
section
variable {X : Cx} {c : FC} {N B R : Type} {GN : N → Env_} {GB : B → Env_} {RK : R → V → Hp → Prop} {Γ : Env_} {rest : List Stmt}
theorem db_none {sts : List Stmt} : DB X c GN GB RK Γ sts none := fun o h => nomatch h
theorem db_nil (n : N) (l : EnvLe Γ (GN n)) (hp : pinsIn (c.M.map (·.1)) (GN n) = true := by rfl) : DB X c GN GB RK Γ [] (some (.nx n)) := fun o h σ H D E f => by
  cases h
  exact sSs_of pss_nil (f.nx n rfl σ H (E.le l (pinsIn_iff hp)) (Mono.refl H))
theorem db_pass {pos : Pos} {m : Option (Fl N B R)} (h : DB X c GN GB RK Γ rest m) : DB X c GN GB RK Γ (.Pass pos :: rest) m := fun o e σ H D E f => sSs_cons ps_pass (h o e σ H D E f)
theorem db_break {pos : Pos} (b : B) (l : EnvLe Γ (GB b)) (hp : pinsIn (c.M.map (·.1)) (GB b) = true := by rfl) : DB X c GN GB RK Γ (.Break pos :: rest) (some (.bk b)) := fun o h σ H D E f => by
  cases h
  exact sSs_cons ps_break (f.bk b rfl σ H (E.le l (pinsIn_iff hp)) (Mono.refl H))
theorem db_cont {pos : Pos} (b : B) (l : EnvLe Γ (GB b)) (hp : pinsIn (c.M.map (·.1)) (GB b) = true := by rfl) : DB X c GN GB RK Γ (.Continue pos :: rest) (some (.ct b)) := fun o h σ H D E f => by
  cases h
  exact sSs_cons ps_continue (f.ct b rfl σ H (E.le l (pinsIn_iff hp)) (Mono.refl H))
/-! x = e -/
theorem db_asg (i : Nat) {x : Str} {e : Expr} {me : Option D} {mr : D → Option (Fl N B R)} {pos pos' : Pos} (hN : X.N.Nodup) (he : DE X c Γ e me) (hr : ∀ d, DB X c GN GB RK (Γ.set i (.imm d)) rest (mr d)) (hi : X.N[i]? = some x := by rfl) (hx : Loc X.env.scope x := by first | exact Or.inl rfl | exact Or.inr rfl)
    (hm : (c.M.map (·.1)).contains i = false := by rfl) (hs : swapsWith e (some (.Name x pos')) pos.line X.env = pure false := by rfl) (hf : X.fn x = true ∨ X.env.scope.names.lookup x = some .local := by first | exact .inl rfl | exact .inr rfl) :
    DB X c GN GB RK Γ (.Assign [.Name x pos'] e pos :: rest) (me.bind mr) := fun o h σ H D E f => by
  obtain ⟨d, e1, e2⟩ := Option.bind_eq_some_iff.mp h
  exact sSs_cons (ps_set hN hi hx (pe_s e) hs hf) (he d e1 σ H _ E fun v H1 s1 r1 => hr d o e2 _ H1 D ((E.same s1).setImm r1 (noPin hm)) (f.mono (.of_same s1)))
theorem db_asgF (i : Nat) {x : Str} {e : Expr} {me : Option (List D)} {mr : List D → Option (Fl N B R)} {pos pos' : Pos} (hN : X.N.Nodup) (he : DF X c Γ e me) (hr : ∀ d, DB X c GN GB RK (Γ.set i (.own d)) rest (mr d)) (hi : X.N[i]? = some x := by rfl) (hx : Loc X.env.scope x := by first | exact Or.inl rfl | exact Or.inr rfl)
    (hm : (c.M.map (·.1)).contains i = false := by rfl) (hs : swapsWith e (some (.Name x pos')) pos.line X.env = pure false := by rfl) (hf : X.fn x = true ∨ X.env.scope.names.lookup x = some .local := by first | exact .inl rfl | exact .inr rfl) :
    DB X c GN GB RK Γ (.Assign [.Name x pos'] e pos :: rest) (me.bind mr) := fun o h σ H D E f => by
  obtain ⟨d, e1, e2⟩ := Option.bind_eq_some_iff.mp h
  exact sSs_cons (ps_set hN hi hx (pe_s e) hs hf) (he d e1 σ H _ E fun a H1 xs hn s1 ha r1 => hr d o e2 _ H1 D ((E.same s1).setOwn ha r1 (E.notOwn hn) (E.fresh0 hn) (noPin hm)) (f.mono (.of_same s1)))
/-- e's value taken apart -/
theorem db_unp {P : Type} {js : List Nat} {tg e : Expr} {me : Option D} {pm : D → Option P} {Gt : P → Env_} {mr : P → Option (Fl N B R)} {pos : Pos} (he : DE X c Γ e me) (ht : DG X c js Γ tg pm Gt) (hr : ∀ p, DB X c GN GB RK (Gt p) rest (mr p))
    (hs : swapsWithSole [tg] e pos.line X.env = pure false := by rfl) (hw : swappedStores [tg] e X.env = pure none := by rfl) (h1 : (assignEach [tg] X.env).map (·.2) = [assign tg X.env] := by rfl) : DB X c GN GB RK Γ (.Assign [tg] e pos :: rest) ((me.bind pm).bind mr) := fun o h σ H D E f => by
  obtain ⟨p, e0, e2⟩ := Option.bind_eq_some_iff.mp h
  obtain ⟨d, e1, e3⟩ := Option.bind_eq_some_iff.mp e0
  exact sSs_cons (ps_asg (pe_s e) (pg_s tg) hs hw h1) (he d e1 σ H _ E fun v H1 s1 r1 => ht d p e3 v σ H1 _ (E.same s1) (.st r1) fun σ' E' _ => hr p o e2 _ H1 D E' (f.mono (.of_same s1)))
/-! a bare expression, a return -/
theorem db_expr {e : Expr} {me : Option D} {mr : Option (Fl N B R)} {pos : Pos} (he : DE X c Γ e me) (hr : DB X c GN GB RK Γ rest mr) (hs : swapsWith e none pos.line X.env = pure false := by rfl) : DB X c GN GB RK Γ (.Expr e pos :: rest) (me.bind fun _ => mr) := fun o h σ H D E f => by
  obtain ⟨d, e1, e2⟩ := Option.bind_eq_some_iff.mp h
  exact sSs_cons (ps_expr (pe_s e) hs) (he d e1 σ H _ E fun v H1 s1 r1 => hr o e2 _ H1 D (E.same s1) (f.mono (.of_same s1)))
theorem db_ret {e : Expr} {me : Option D} {g : D → R} {pos : Pos} (he : DE X c Γ e me) (hg : ∀ d v σ H, EnvOk X.K c σ H Γ → Rp X.K H v d → RK (g d) v H) : DB X c GN GB RK Γ (.Return (some e) pos :: rest) (me.map fun d => .rt (g d)) := fun o h σ H D E f => by
  obtain ⟨d, e1, rfl⟩ := Option.map_eq_some_iff.mp h
  exact sSs_cons (ps_ret (pe_s e)) (he d e1 σ H _ E fun v H1 s1 r1 => f.rt _ rfl v H1 (hg d v σ H1 (E.same s1) r1))
theorem db_retF {e : Expr} {me : Option (List D)} {g : List D → R} {pos : Pos} (he : DF X c Γ e me) (hg : ∀ d a xs σ H, EnvOk X.K c σ H Γ → c.H0 a = none → H a = some (.lst xs) → RpA X.K H xs d → RK (g d) (.ref a) H) : DB X c GN GB RK Γ (.Return (some e) pos :: rest) (me.map fun d => .rt (g d)) := fun o h σ H D E f => by
  obtain ⟨d, e1, rfl⟩ := Option.map_eq_some_iff.mp h
  exact sSs_cons (ps_ret (pe_s e)) (he d e1 σ H _ E fun a H1 xs hn s1 ha r1 => f.rt _ rfl _ H1 (hg d a xs σ H1 (E.same s1) (E.fresh0 hn) ha r1))
/-- return of a list that a slot holds (not one handed in) -/
theorem db_retOwn (i : Nat) {x : Str} {ds : List D} {g : List D → R} {pos pos' : Pos} (h : Γ[i]? = some (.own ds) := by rfl) (hg : ∀ a xs σ H, EnvOk X.K c σ H Γ → c.H0 a = none → H a = some (.lst xs) → RpA X.K H xs ds → RK (g ds) (.ref a) H) (hm : (c.M.map (·.1)).contains i = false := by rfl)
    (hN : X.N[i]? = some x := by rfl) (hv : Vis X.env.scope x := by first | exact Or.inl rfl | exact Or.inr (Or.inl rfl) | exact Or.inr (Or.inr rfl)) (hd : (x == ("__debug__" : Str)) = false := by decide) (hcd : (x == ("__classdict__" : Str)) = false := by decide) :
    DB X c GN GB RK Γ (.Return (some (.Name x pos')) pos :: rest) (some (.rt (g ds))) := fun o h' σ H D E f => by
  cases h'
  obtain ⟨a, xs, e, ha, r⟩ := E.cells i _ h
  refine sSs_cons (ps_ret (pe_var hN hv hd hcd)) ⟨_, e, f.rt _ rfl _ H (hg a xs σ H E ?_ ha r)⟩
  rcases E.new a ⟨i, _, h, rfl, e⟩ with ⟨p, hp, ep⟩ | z
  · exfalso
    obtain ⟨h1, k, h2, h3⟩ := E.pins p hp
    have hne : p.1 ≠ i := noPin hm p hp
    rw [ep] at h1
    exact E.apart p.1 i k _ a hne h2 h3 h rfl h1 e
  · exact z
/-! if -/
def seqFl {N1 : Type} (mr : N1 → Option (Fl N B R)) : Fl N1 B R → Option (Fl N B R)
  | .nx n => mr n
  | .bk b => some (.bk b)
  | .ct b => some (.ct b)
  | .rt r => some (.rt r)
theorem seq_fin {N1 : Type} {G1 : N1 → Env_} {mr : N1 → Option (Fl N B R)} {H : Hp} {D : Ends} {o1 : Fl N1 B R} {o : Fl N B R} (h : seqFl mr o1 = some o) (hr : ∀ n, DB X c GN GB RK (G1 n) rest (mr n)) (f : Fin_ X.K c GN GB RK H o D) : Fin_ X.K c G1 GB RK H o1 { D with nx := sSs X rest D } := by
  cases o1 with
  | nx n => exact ⟨(fun n' e σ' H' E m => by cases e; exact hr n o h σ' H' D E (f.mono m)), (fun b e => nomatch e), (fun b e => nomatch e), (fun b e => nomatch e)⟩
  | bk b =>
    cases h
    exact ⟨(fun b e => nomatch e), (fun b' e => by cases e; exact f.bk b rfl), (fun b e => nomatch e), (fun b e => nomatch e)⟩
  | ct b =>
    cases h
    exact ⟨(fun b e => nomatch e), (fun b e => nomatch e), (fun b' e => by cases e; exact f.ct b rfl), (fun b e => nomatch e)⟩
  | rt r =>
    cases h
    exact ⟨(fun b e => nomatch e), (fun b e => nomatch e), (fun b e => nomatch e), (fun b' e => by cases e; exact f.rt r rfl)⟩
theorem db_if {N1 : Type} (G1 : N1 → Env_) {t : Expr} {a b : List Stmt} {mt : Option Bool} {ma mb : Option (Fl N1 B R)} {mr : N1 → Option (Fl N B R)} {pos : Pos} (ht : DT X c Γ t mt) (ha : DB X c G1 GB RK Γ a ma) (hb : DB X c G1 GB RK Γ b mb) (hr : ∀ n, DB X c GN GB RK (G1 n) rest (mr n)) :
    DB X c GN GB RK Γ (.If t a b pos :: rest) ((iteO mt ma mb).bind (seqFl mr)) := fun o h σ H D E f => by
  obtain ⟨o1, e1, e2⟩ := Option.bind_eq_some_iff.mp h
  obtain ⟨x, e3, e4⟩ := Option.bind_eq_some_iff.mp e1
  refine sSs_cons (ps_if (pt_s t) (pss_s a) (pss_s b)) (ht x e3 σ H _ E fun H1 s1 => ?_)
  cases x with
  | true => exact iteT (ha o1 e4 σ H1 _ (E.same s1) (seq_fin e2 hr (f.mono (.of_same s1))))
  | false => exact iteF (hb o1 e4 σ H1 _ (E.same s1) (seq_fin e2 hr (f.mono (.of_same s1))))
/-! for -/
inductive Lp (L R : Type) where
  | nx (l : L) | rt (r : R)
def forF {L R : Type} (f : L → D → Option (Fl L L R)) : List D → L → Option (Lp L R)
  | [], l => some (.nx l)
  | x :: r, l => (f l x).bind fun o => match o with
    | .nx l' => forF f r l'
    | .ct l' => forF f r l'
    | .bk l' => some (.nx l')
    | .rt z => some (.rt z)
def seqLp {L : Type} (mr : L → Option (Fl N B R)) : Lp L R → Option (Fl N B R)
  | .nx n => mr n
  | .rt r => some (.rt r)
theorem for_core {L P : Type} {GL : L → Env_} {js : List Nat} {tg : Expr} {body : List Stmt} {pm : D → Option P} {Gt : L → P → Env_} {mb : L → P → Option (Fl L L R)} {mr : L → Option (Fl N B R)} {J : It} {ds : List D} {Gd : Hp → Prop} {σ : St} {H : Hp} {D : Ends} {l0 : L} {o : Fl N B R} {z : Lp L R}
    (ht : ∀ l, DG X c js (GL l) tg pm (Gt l)) (hb : ∀ l p, DB X c GL GL RK (Gt l p) body (mb l p)) (hr : ∀ l, DB X c GN GB RK (GL l) rest (mr l))
    (hz : forF (fun l x => (pm x).bind (mb l)) ds l0 = some z) (ho : seqLp mr z = some o) (i : ItD tg X.K J ds Gd) (g : Gd H) (E : EnvOk X.K c σ H (GL l0)) (f : Fin_ X.K c GN GB RK H o D) :
    ∃ W : Nat → Nat → St → Hp → Prop, (∃ m, W 0 m σ H) ∧ ∀ i m σ H, W i m σ H →
      (J.stop i H ∧ (sSs X rest D) σ H) ∨ (J.go i H ∧ ∃ N : St → Hp → Prop, (∀ σ' H', N σ' H' → ∃ m', m' < m ∧ W (i + 1) m' σ' H') ∧ ∀ x H', J.yld i H x H' → sG X tg x σ H' fun σ2 H2 => sSs X body { { D with nx := sSs X rest D } with nx := N, ct := N, bk := sSs X rest D } σ2 H2) := by
  refine ⟨fun j m σ' H' => m = ds.length - j ∧ j ≤ ds.length ∧ Mono H H' ∧ ∃ l, EnvOk X.K c σ' H' (GL l) ∧ forF (fun l x => (pm x).bind (mb l)) (ds.drop j) l = some z, ⟨ds.length, rfl, Nat.zero_le _, Mono.refl H, l0, E, hz⟩, ?_⟩
  rintro j m σ' H' ⟨rfl, hj, mo, l, E', hz'⟩
  by_cases hlt : j < ds.length
  · right
    have hd : ds[j]? = some ds[j] := List.getElem?_eq_getElem hlt
    rw [List.drop_eq_getElem_cons hlt] at hz'
    obtain ⟨o1, e1, e2⟩ := Option.bind_eq_some_iff.mp hz'
    obtain ⟨p, e3, e4⟩ := Option.bind_eq_some_iff.mp e1
    refine ⟨i.goes j H' hlt (i.stays H H' g mo), fun σ'' H'' => Mono H H'' ∧ ∃ l, EnvOk X.K c σ'' H'' (GL l) ∧ forF (fun l x => (pm x).bind (mb l)) (ds.drop (j + 1)) l = some z, fun σ'' H'' ⟨m2, l2, E2, h2⟩ => ⟨ds.length - (j + 1), by omega, rfl, hlt, m2, l2, E2, h2⟩, fun x H2 y => ?_⟩
    obtain ⟨s2, r2⟩ := i.yields j H' x H2 _ hd (i.stays H H' g mo) y
    refine ht l _ p e3 x σ' H2 _ (E'.same s2) r2 fun σ3 E3 _ => hb l p o1 e4 σ3 H2 _ E3 ?_
    have m12 : Mono H H2 := mo.trans (.of_same s2)
    cases o1 with
    | nx l' => exact ⟨(fun n' e σ' H' E m => by cases e; exact ⟨m12.trans m, l', E, e2⟩), (fun b e => nomatch e), (fun b e => nomatch e), (fun b e => nomatch e)⟩
    | ct l' => exact ⟨(fun b e => nomatch e), (fun b e => nomatch e), (fun n' e σ' H' E m => by cases e; exact ⟨m12.trans m, l', E, e2⟩), (fun b e => nomatch e)⟩
    | bk l' =>
      cases e2
      exact ⟨(fun b e => nomatch e), (fun n' e σ' H' E m => by cases e; exact hr l' o ho σ' H' D E (f.mono (m12.trans m))), (fun b e => nomatch e), (fun b e => nomatch e)⟩
    | rt r =>
      cases e2
      cases ho
      exact ⟨(fun b e => nomatch e), (fun b e => nomatch e), (fun b e => nomatch e), (fun b' e => by cases e; exact f.rt r rfl)⟩
  · left
    have e : j = ds.length := by omega
    subst e
    rw [List.drop_length] at hz'
    cases hz'
    exact ⟨i.stops H' (i.stays H H' g mo), hr l o ho σ' H' D E' (f.mono mo)⟩
theorem db_for {L P : Type} (GL : L → Env_) (l0 : L) {js : List Nat} {tg iter : Expr} {body : List Stmt} {pm : D → Option P} {Gt : L → P → Env_} {mi : Option (List D)} {mb : L → P → Option (Fl L L R)} {mr : L → Option (Fl N B R)} {pos : Pos} (hc : X.calm = true) (hx : X.xe = fun _ _ => False) (hi : DI X c Γ tg iter mi) (hl : EnvLe Γ (GL l0))
    (ht : ∀ l, DG X c js (GL l) tg pm (Gt l)) (hb : ∀ l p, DB X c GL GL RK (Gt l p) body (mb l p)) (hr : ∀ l, DB X c GN GB RK (GL l) rest (mr l)) (hp : pinsIn (c.M.map (·.1)) (GL l0) = true := by rfl) (hs : ∀ x, foldedSetIterable iter X.env x = pure x := by intro _; rfl) :
    DB X c GN GB RK Γ (.For tg iter body [] pos :: rest) ((mi.bind fun its => forF (fun l x => (pm x).bind (mb l)) its l0).bind (seqLp mr)) := fun o h σ H D E f => by
  obtain ⟨z, e1, e2⟩ := Option.bind_eq_some_iff.mp h
  obtain ⟨ds, e3, e4⟩ := Option.bind_eq_some_iff.mp e1
  have hpo : PassesOwn (model X.prog X.w) X.A X.env X.xe := by rw [hx]; exact PassesOwn.never
  refine sSs_cons (ps_for hpo hc (pi_s tg iter) (pg_s tg) (pss_s body) hs) (hi ds e3 σ H _ E fun J H1 Gd s1 i g => ?_)
  exact for_core ht hb hr e4 e2 i g ((E.same s1).le hl (pinsIn_iff hp)) (f.mono (.of_same s1))
/-! while -/
def whileF {L R : Type} (t : L → Option Bool) (f : L → Option (Fl L L R)) : Nat → L → Option (Lp L R)
  | 0, _ => none
  | n + 1, l => (t l).bind fun b => if b then (f l).bind fun o => match o with
    | .nx l' => whileF t f n l'
    | .ct l' => whileF t f n l'
    | .bk l' => some (.nx l')
    | .rt z => some (.rt z)
    else some (.nx l)
theorem db_while {L : Type} (GL : L → Env_) (l0 : L) (fuel : Nat) {t : Expr} {body : List Stmt} {mt : L → Option Bool} {mb : L → Option (Fl L L R)} {mr : L → Option (Fl N B R)} {pos : Pos} (hx : X.xe = fun _ _ => False) (hl : EnvLe Γ (GL l0))
    (ht : ∀ l, DT X c (GL l) t (mt l)) (hb : ∀ l, DB X c GL GL RK (GL l) body (mb l)) (hr : ∀ l, DB X c GN GB RK (GL l) rest (mr l)) (hp : pinsIn (c.M.map (·.1)) (GL l0) = true := by rfl) :
    DB X c GN GB RK Γ (.While t body [] pos :: rest) ((whileF mt mb fuel l0).bind (seqLp mr)) := fun o h σ H D E f => by
  obtain ⟨z, e1, e2⟩ := Option.bind_eq_some_iff.mp h
  have hpo : PassesOwn (model X.prog X.w) X.A X.env X.xe := by rw [hx]; exact PassesOwn.never
  refine sSs_cons (ps_while hpo (pt_s t) (pss_s body)) ⟨fun n σ' H' => Mono H H' ∧ ∃ l, EnvOk X.K c σ' H' (GL l) ∧ whileF mt mb n l = some z, ⟨fuel, Mono.refl H, l0, E.le hl (pinsIn_iff hp), e1⟩, ?_⟩
  rintro n σ' H' ⟨mo, l, E', hz⟩
  cases n with
  | zero => cases hz
  | succ n =>
    obtain ⟨b, e3, e4⟩ := Option.bind_eq_some_iff.mp hz
    refine ht l b e3 σ' H' _ E' fun H1 s1 => ?_
    have m1 : Mono H H1 := mo.trans (.of_same s1)
    cases b with
    | false =>
      rw [if_neg Bool.false_ne_true] at e4
      cases e4
      exact iteF (hr l o e2 σ' H1 D (E'.same s1) (f.mono m1))
    | true =>
      rw [if_pos rfl] at e4
      obtain ⟨o1, e5, e6⟩ := Option.bind_eq_some_iff.mp e4
      refine iteT ⟨fun σ'' H'' => Mono H H'' ∧ ∃ l, EnvOk X.K c σ'' H'' (GL l) ∧ whileF mt mb n l = some z, fun σ'' H'' q => ⟨n, Nat.lt_succ_self n, q⟩, hb l o1 e5 σ' H1 _ (E'.same s1) ?_⟩
      cases o1 with
      | nx l' => exact ⟨(fun n' e σ' H' E m => by cases e; exact ⟨m1.trans m, l', E, e6⟩), (fun b e => nomatch e), (fun b e => nomatch e), (fun b e => nomatch e)⟩
      | ct l' => exact ⟨(fun b e => nomatch e), (fun b e => nomatch e), (fun n' e σ' H' E m => by cases e; exact ⟨m1.trans m, l', E, e6⟩), (fun b e => nomatch e)⟩
      | bk l' =>
        cases e6
        exact ⟨(fun b e => nomatch e), (fun n' e σ' H' E m => by cases e; exact hr l' o e2 σ' H' D E (f.mono (m1.trans m))), (fun b e => nomatch e), (fun b e => nomatch e)⟩
      | rt r =>
        cases e6
        cases e2
        exact ⟨(fun b e => nomatch e), (fun b e => nomatch e), (fun b e => nomatch e), (fun b' e => by cases e; exact f.rt r rfl)⟩
/-! lists that slots hold -/
/-- xs.append(e) -/
def appD (ds : List D) (d : D) : Option (List D) := if ds.length < 100000 then some (ds ++ [d]) else none
theorem db_append (i : Nat) {ds : List D} {x : Str} {e : Expr} {me : Option D} {mr : List D → Option (Fl N B R)} {pos p1 p2 p3 : Pos} (h : Γ[i]? = some (.own ds) := by rfl) (he : DE X c Γ e me) (hr : ∀ es, DB X c GN GB RK (Γ.set i (.own es)) rest (mr es)) (hN : X.N[i]? = some x := by rfl) (hv : Vis X.env.scope x := by first | exact Or.inl rfl | exact Or.inr (Or.inl rfl) | exact Or.inr (Or.inr rfl))
    (na : starEach [e] X.env = (false, eval e X.env) :: starEach [] X.env := by rfl)
    (hfew : ((backTo p3 (starEach [e] X.env)).all (fun x => !x.1) && (backToKw p3 (keywordEach [] X.env)).all (fun x => x.1.isSome) && decide (([e] : List Expr).length + ([] : List Keyword).length + (if ([] : List Keyword).isEmpty then 0 else 1) < 30)) = true := by rfl)
    (hs : swapsWith (.Call (.Attribute (.Name x p1) "append" p2) [e] [] p3) none pos.line X.env = pure false := by rfl) (hb : attributeBase (.Name x p1) "append" X.env (eval (.Name x p1) X.env) = eval (.Name x p1) X.env := by rfl) (hln : (p2.endLine == p3.line) = true := by rfl) (hd : (x == ("__debug__" : Str)) = false := by decide) (hcd : (x == ("__classdict__" : Str)) = false := by decide) :
    DB X c GN GB RK Γ (.Expr (.Call (.Attribute (.Name x p1) "append" p2) [e] [] p3) pos :: rest) ((me.bind (appD ds)).bind mr) := fun o h' σ H D E f => by
  obtain ⟨es, e0, e2⟩ := Option.bind_eq_some_iff.mp h'
  obtain ⟨d, e1, e3⟩ := Option.bind_eq_some_iff.mp e0
  unfold appD at e3
  split at e3
  · rename_i hz
    cases e3
    refine sSs_cons (ps_expr (pe_bm PySem.F.plainAttrs_list PySem.F.slot_list_append PySem.F.type_list_append mt_append (pe_var hN hv hd hcd) (pa_cons (pe_s e) pa_nil na) (hbase := hb) (hfew := hfew) (hline := hln) (hs := na)) hs) ?_
    obtain ⟨a, xs, ea, ha, r⟩ := E.ownAt h
    refine ⟨_, ea, .inl ⟨rfl, _, .inl (.inl ha)⟩, he d e1 σ H _ E fun v H1 s1 r1 => ⟨a, xs, v, rfl, rfl, s1 _ _ ha, ?_, ?_⟩⟩
    · rw [r.length]
      exact Nat.lt_of_lt_of_le hz (by decide)
    · have mo : Mono H1 (upd H1 a (.lst (xs ++ [v]))) := ⟨fun b zs hb => by rw [upd_ne (ne_of hb (s1 _ _ ha) (by intro z; cases z))]; exact hb, fun b o u hb => by rw [upd_ne (ne_of hb (s1 _ _ ha) (by intro z; cases z))]; exact hb⟩
      have E1 := (E.same s1).write (es := ds ++ [d]) (ys := xs ++ [v]) h ea (H' := upd H1 a (.lst (xs ++ [v]))) (fun b o hb hne => by rw [upd_ne hne]; exact hb) upd_same (((r.mono (.of_same s1)).snoc r1).mono mo)
      exact hr _ o e2 σ _ D E1 (f.mono ((Mono.of_same s1).trans mo))
  · cases e3
end
end DL

set_option Elab.async false
set_option linter.all false
set_option maxRecDepth 100000
set_option maxHeartbeats 2000000
set_option autoImplicit false
namespace DL
open PySem PySem.Spec PyProof.Rows L2
/-! ### what a name is given: a value that stands still, a new list, a new dict -/
inductive Kd : Type → Type 1 where
  | imm : Kd D
  | own : Kd (List D)
  | dct : Kd (List (D × D))
  | dtt : Kd (List (D × D))
def Kd.cell : {α : Type} → Kd α → α → Cell
  | _, .imm, d => .imm d
  | _, .own, ds => .own ds
  | _, .dct, ds => .dct ds
  | _, .dtt, ds => .dtt ds
def Kd.isOwn : {α : Type} → Kd α → Bool
  | _, .imm => false
  | _, .own => true
  | _, .dct => true
  | _, .dtt => true
def Kd.has (K : Fr_) (c : FC) (Γ : Env_) (σ : St) (H : Hp) (v : V) {α : Type} (κ : Kd α) (x : α) : Prop :=
  CellOk K H (some (some v)) (κ.cell x) ∧ (κ.isOwn = true → ∀ a, v = .ref a → ¬ Owns Γ σ a ∧ c.H0 a = none)
theorem Kd.cellOwn {α : Type} {κ : Kd α} {x : α} : (κ.cell x).isOwn = κ.isOwn := by cases κ <;> rfl
theorem Kd.imm_of {K : Fr_} {c : FC} {Γ : Env_} {σ : St} {H : Hp} {v : V} {d : D} (r : Rp K H v d) : Kd.imm.has K c Γ σ H v d := ⟨⟨v, rfl, r⟩, fun z => nomatch z⟩
theorem Kd.own_of {K : Fr_} {c : FC} {Γ : Env_} {σ : St} {H : Hp} {a : Addr} {xs : List V} {ds : List D} (h : H a = some (.lst xs)) (r : RpA K H xs ds) (hn : ¬ Owns Γ σ a) (h0 : c.H0 a = none) : Kd.own.has K c Γ σ H (.ref a) ds :=
  ⟨⟨a, xs, rfl, h, r⟩, fun _ b e => by cases e; exact ⟨hn, h0⟩⟩
theorem Kd.dct_of {K : Fr_} {c : FC} {Γ : Env_} {σ : St} {H : Hp} {a : Addr} {ws : List (Key × V)} {kvs : List (D × D)} (h : H a = some (.dK ws)) (r : RpK K H ws kvs) (hn : ¬ Owns Γ σ a) (h0 : c.H0 a = none) : Kd.dct.has K c Γ σ H (.ref a) kvs :=
  ⟨⟨a, ws, rfl, h, r⟩, fun _ b e => by cases e; exact ⟨hn, h0⟩⟩
theorem Kd.put {K : Fr_} {c : FC} {Γ : Env_} {σ : St} {H : Hp} {v : V} {α : Type} {κ : Kd α} {a : α} {i : Nat} (E : EnvOk K c σ H Γ) (h : κ.has K c Γ σ H v a) (hm : ∀ p ∈ c.M, p.1 ≠ i) : EnvOk K c (σ.set i (some v)) H (Γ.set i (κ.cell a)) := by
  cases hk : κ.isOwn with
  | false =>
    cases κ with
    | imm =>
      obtain ⟨⟨w, e, r⟩, _⟩ := h
      cases e
      exact E.setImm r hm
    | own => cases hk
    | dct => cases hk
    | dtt => cases hk
  | true =>
    obtain ⟨ad, u, e, _, _⟩ := h.1.mine (Kd.cellOwn.trans hk)
    cases e
    obtain ⟨hn, h0⟩ := h.2 hk ad rfl
    exact E.setMine h.1 hn h0 hm
/-- another value stays what it is when v is stored -/
theorem Kd.keep {K : Fr_} {c : FC} {Γ : Env_} {σ : St} {H : Hp} {v w : V} {α β : Type} {κ : Kd α} {μ : Kd β} {a : α} {b : β} {i : Nat} (E : EnvOk K c σ H Γ) (h : κ.has K c Γ σ H v a) (g : μ.has K c Γ σ H w b) (hne : κ.isOwn = true → μ.isOwn = true → v ≠ w) : μ.has K c (Γ.set i (κ.cell a)) (σ.set i (some v)) H w b := by
  refine ⟨g.1, fun ho ad ea => ?_⟩
  subst ea
  obtain ⟨hn, h0⟩ := g.2 ho ad rfl
  refine ⟨fun ⟨j, k, e1, e2, e3⟩ => ?_, h0⟩
  by_cases ej : i = j
  · subst ej
    have hk : k = κ.cell a := by
      rw [List.getElem?_set] at e1
      simp at e1
      exact e1.2.symm
    have hv : v = .ref ad := by
      rw [List.getElem?_set] at e3
      simp at e3
      exact e3.2
    subst hk
    exact hne (Kd.cellOwn.symm.trans e2) ho hv
  · rw [List.getElem?_set_ne ej] at e1 e3
    exact hn ⟨j, k, e1, e2, e3⟩
theorem Kd.step {K : Fr_} {c : FC} {Γ Γ' : Env_} {σ : St} {H H' : Hp} {w : V} {β : Type} {μ : Kd β} {b : β} (E : EnvOk K c σ H Γ) (g : μ.has K c Γ σ H w b) (s : Step Γ Γ' σ H H') : μ.has K c Γ' σ H' w b := by
  refine ⟨g.1.keep (s.mono E) fun ho a u e hu => ?_, fun ho a ea => ?_⟩
  · cases e
    exact s.1 a u hu (g.2 (Kd.cellOwn.symm.trans ho) a rfl).1
  · obtain ⟨hn, h0⟩ := g.2 ho a ea
    exact ⟨fun o => hn (s.2 _ o), h0⟩
theorem Kd.there {K : Fr_} {c : FC} {Γ : Env_} {σ : St} {H : Hp} {w : V} {β : Type} {μ : Kd β} {b : β} (g : μ.has K c Γ σ H w b) (ho : μ.isOwn = true) : ∃ a, w = .ref a ∧ H a ≠ none := by
  obtain ⟨ad, u, e, hu, _⟩ := g.1.mine (Kd.cellOwn.trans ho)
  cases e
  exact ⟨ad, rfl, by rw [hu]; intro z; cases z⟩
section
variable (X : Cx) (c : FC) {T : Type} (G : T → Env_)
def DXK {α : Type} (κ : Kd α) (e : Expr) (m : T → Option (α × T)) : Prop := ∀ t a t', m t = some (a, t') → ∀ (σ : St) (H : Hp) (Q : VK), EnvOk X.K c σ H (G t) →
  (∀ v H', EnvOk X.K c σ H' (G t') → Step (G t) (G t') σ H H' → κ.has X.K c (G t') σ H' v a → (κ.isOwn = true → ∀ ad, v = .ref ad → H ad = none) → Q v H') → sE X e σ H Q
end
section
variable {X : Cx} {c : FC} {T : Type} {G : T → Env_}
theorem dxk_imm {e : Expr} {m : T → Option (D × T)} (h : DX X c G e m) : DXK X c G .imm e m := fun t a t' hm σ H Q E k => h t a t' hm σ H Q E fun v H' E' s r => k v H' E' s (Kd.imm_of r) fun z => nomatch z
theorem dxk_own {e : Expr} {m : T → Option (List D × T)} (h : DXF X c G e m) : DXK X c G .own e m := fun t a t' hm σ H Q E k => h t a t' hm σ H Q E fun ad H' xs hn E' s ha r =>
  k _ H' E' s (Kd.own_of ha r (fun o => E.notOwn hn (s.2 _ o)) (E.fresh0 hn)) fun _ b e => by cases e; exact hn
variable {N B R : Type} {GN : N → Env_} {GB : B → Env_} {RK : R → V → Hp → Prop} {rest : List Stmt}
/-! statements -/
theorem dbx_asg {α : Type} (κ : Kd α) (i : Nat) {x : Str} {e : Expr} {m : T → Option (α × T)} {mr : α × T → Option (Fl N B R)} {pos pos' : Pos} {t : T} (hN : X.N.Nodup) (he : DXK X c G κ e m) (hr : ∀ q : α × T, DB X c GN GB RK ((G q.2).set i (κ.cell q.1)) rest (mr q)) (hi : X.N[i]? = some x := by rfl) (hx : Loc X.env.scope x := by first | exact Or.inl rfl | exact Or.inr rfl)
    (hm : (c.M.map (·.1)).contains i = false := by rfl) (hs : swapsWith e (some (.Name x pos')) pos.line X.env = pure false := by rfl) (hf : X.fn x = true ∨ X.env.scope.names.lookup x = some .local := by first | exact .inl rfl | exact .inr rfl) :
    DB X c GN GB RK (G t) (.Assign [.Name x pos'] e pos :: rest) ((m t).bind mr) := fun o h σ H D E f => by
  obtain ⟨⟨d, t'⟩, e1, e2⟩ := Option.bind_eq_some_iff.mp h
  exact sSs_cons (ps_set hN hi hx (pe_s e) hs hf) (he t d t' e1 σ H _ E fun v H1 E1 s1 r1 _ => hr (d, t') o e2 _ H1 D (Kd.put E1 r1 (noPin hm)) (f.mono (s1.mono E)))
theorem dbx_unp {P : Type} {js : List Nat} {tg e : Expr} {m : T → Option (D × T)} {pm : D → Option P} {Gt : T → P → Env_} {mr : P × T → Option (Fl N B R)} {pos : Pos} {t : T} (he : DX X c G e m) (ht : ∀ t', DG X c js (G t') tg pm (Gt t')) (hr : ∀ q : P × T, DB X c GN GB RK (Gt q.2 q.1) rest (mr q))
    (hs : swapsWithSole [tg] e pos.line X.env = pure false := by rfl) (hw : swappedStores [tg] e X.env = pure none := by rfl) (h1 : (assignEach [tg] X.env).map (·.2) = [assign tg X.env] := by rfl) : DB X c GN GB RK (G t) (.Assign [tg] e pos :: rest) ((bindX m pm t).bind mr) := fun o h σ H D E f => by
  obtain ⟨⟨p, t'⟩, e0, e2⟩ := Option.bind_eq_some_iff.mp h
  obtain ⟨d, e1, e3⟩ := bindX_eq e0
  exact sSs_cons (ps_asg (pe_s e) (pg_s tg) hs hw h1) (he t d t' e1 σ H _ E fun v H1 E1 s1 r1 => ht t' d p e3 v σ H1 _ E1 (.st r1) fun σ' E' _ => hr (p, t') o e2 _ H1 D E' (f.mono (s1.mono E)))
def two {α β : Type} (a : T → Option (α × T)) (b : T → Option (β × T)) : T → Option ((α × β) × T) := fun t => (a t).bind fun p => (b p.2).map fun q => ((p.1, q.1), q.2)
def three {α β γ : Type} (a : T → Option (α × T)) (b : T → Option (β × T)) (d : T → Option (γ × T)) : T → Option ((α × β × γ) × T) := fun t => (a t).bind fun p => (b p.2).bind fun q => (d q.2).map fun r => ((p.1, q.1, r.1), r.2)
/-- a, b = e1, e2 -/
theorem dbx_par {α β : Type} (κ : Kd α) (μ : Kd β) (i j : Nat) {x y : Str} {a b : Expr} {ma : T → Option (α × T)} {mb : T → Option (β × T)} {mr : (α × β) × T → Option (Fl N B R)} {px py pt pos : Pos} {kt k2 : Nat} {pt2 : Pos} {t : T} (hc : X.calm = true) (hN : X.N.Nodup)
    (ha : DXK X c G κ a ma) (hb : DXK X c G μ b mb) (hr : ∀ q : (α × β) × T, DB X c GN GB RK (((G q.2).set i (κ.cell q.1.1)).set j (μ.cell q.1.2)) rest (mr q)) (hi : X.N[i]? = some x := by rfl) (hj : X.N[j]? = some y := by rfl) (hij : i ≠ j := by decide)
    (hm : (c.M.map (·.1)).contains i = false := by rfl) (hm' : (c.M.map (·.1)).contains j = false := by rfl) (hx : X.env.scope.names.lookup x = some .local := by rfl) (hy : X.env.scope.names.lookup y = some .local := by rfl)
    (hw : swappedStores [.Tuple [.Name x px, .Name y py] kt pt] (.Tuple [a, b] k2 pt2) X.env = pure (some [x, y]) := by rfl) (hs : swapsWithSole [.Tuple [.Name x px, .Name y py] kt pt] (.Tuple [a, b] k2 pt2) pos.line X.env = pure false := by rfl) (na : NoStar X [a, b] := by exact ⟨rfl, rfl, trivial⟩) :
    DB X c GN GB RK (G t) (.Assign [.Tuple [.Name x px, .Name y py] kt pt] (.Tuple [a, b] k2 pt2) pos :: rest) ((two ma mb t).bind mr) := fun o h σ H D E f => by
  obtain ⟨⟨⟨u, w⟩, t'⟩, e0, e2⟩ := Option.bind_eq_some_iff.mp h
  obtain ⟨⟨u', t1⟩, e3, e4⟩ := Option.bind_eq_some_iff.mp e0
  obtain ⟨⟨w', t2⟩, e5, e6⟩ := Option.map_eq_some_iff.mp e4
  cases e6
  refine sSs_cons (ps_par hc hN hi hj hij hx hy (pa_s na) hw hs) ?_
  refine ha t _ t1 e3 σ H _ E fun v H1 E1 s1 r1 n1 => hb t1 _ _ e5 σ H1 _ E1 fun v2 H2 E2 s2 r2 n2 => ⟨v, v2, rfl, ?_⟩
  have r1' := Kd.step E1 r1 s2
  refine hr _ o e2 _ H2 D (Kd.put (Kd.put E2 r1' (noPin hm)) (Kd.keep E2 r1' r2 fun z1 z2 => ?_) (noPin hm')) (f.mono ((s1.trans s2).mono E))
  obtain ⟨ad, ea, ha'⟩ := Kd.there r1 z1
  intro z
  exact ha' (n2 z2 ad (z ▸ ea))
theorem dbx_par3 {α β γ : Type} (κ : Kd α) (μ : Kd β) (ν : Kd γ) (i j l : Nat) {x y z : Str} {a b d : Expr} {ma : T → Option (α × T)} {mb : T → Option (β × T)} {md : T → Option (γ × T)} {mr : (α × β × γ) × T → Option (Fl N B R)} {px py pz pt pos : Pos} {kt k2 : Nat} {pt2 : Pos} {t : T} (hc : X.calm = true) (hN : X.N.Nodup)
    (ha : DXK X c G κ a ma) (hb : DXK X c G μ b mb) (hd : DXK X c G ν d md) (hr : ∀ q : (α × β × γ) × T, DB X c GN GB RK ((((G q.2).set i (κ.cell q.1.1)).set j (μ.cell q.1.2.1)).set l (ν.cell q.1.2.2)) rest (mr q)) (hi : X.N[i]? = some x := by rfl) (hj : X.N[j]? = some y := by rfl) (hl : X.N[l]? = some z := by rfl) (hij : i ≠ j := by decide) (hil : i ≠ l := by decide) (hjl : j ≠ l := by decide)
    (hm : (c.M.map (·.1)).contains i = false := by rfl) (hm' : (c.M.map (·.1)).contains j = false := by rfl) (hm'' : (c.M.map (·.1)).contains l = false := by rfl) (hx : X.env.scope.names.lookup x = some .local := by rfl) (hy : X.env.scope.names.lookup y = some .local := by rfl) (hz : X.env.scope.names.lookup z = some .local := by rfl)
    (hw : swappedStores [.Tuple [.Name x px, .Name y py, .Name z pz] kt pt] (.Tuple [a, b, d] k2 pt2) X.env = pure (some [x, y, z]) := by rfl) (hs : swapsWithSole [.Tuple [.Name x px, .Name y py, .Name z pz] kt pt] (.Tuple [a, b, d] k2 pt2) pos.line X.env = pure false := by rfl) (na : NoStar X [a, b, d] := by exact ⟨rfl, rfl, rfl, trivial⟩) :
    DB X c GN GB RK (G t) (.Assign [.Tuple [.Name x px, .Name y py, .Name z pz] kt pt] (.Tuple [a, b, d] k2 pt2) pos :: rest) ((three ma mb md t).bind mr) := fun o h σ H D E f => by
  obtain ⟨⟨⟨u, w, q⟩, t'⟩, e0, e2⟩ := Option.bind_eq_some_iff.mp h
  obtain ⟨⟨u', t1⟩, e3, e4⟩ := Option.bind_eq_some_iff.mp e0
  obtain ⟨⟨w', t2⟩, e5, e6⟩ := Option.bind_eq_some_iff.mp e4
  obtain ⟨⟨q', t3⟩, e7, e8⟩ := Option.map_eq_some_iff.mp e6
  cases e8
  refine sSs_cons (ps_par3 hc hN hi hj hl hij hil hjl hx hy hz (pa_s na) hw hs) ?_
  refine ha t _ t1 e3 σ H _ E fun v H1 E1 s1 r1 n1 => hb t1 _ t2 e5 σ H1 _ E1 fun v2 H2 E2 s2 r2 n2 => hd t2 _ _ e7 σ H2 _ E2 fun v3 H3 E3 s3 r3 n3 => ⟨v, v2, v3, rfl, ?_⟩
  have r1' := Kd.step E1 r1 s2
  have r1'' := Kd.step E2 r1' s3
  have r2' := Kd.step E2 r2 s3
  have d12 : κ.isOwn = true → μ.isOwn = true → v ≠ v2 := fun z1 z2 => by
    obtain ⟨ad, ea, ha'⟩ := Kd.there r1 z1
    intro z
    exact ha' (n2 z2 ad (z ▸ ea))
  have d13 : κ.isOwn = true → ν.isOwn = true → v ≠ v3 := fun z1 z2 => by
    obtain ⟨ad, ea, ha'⟩ := Kd.there r1' z1
    intro z
    exact ha' (n3 z2 ad (z ▸ ea))
  have d23 : μ.isOwn = true → ν.isOwn = true → v2 ≠ v3 := fun z1 z2 => by
    obtain ⟨ad, ea, ha'⟩ := Kd.there r2 z1
    intro z
    exact ha' (n3 z2 ad (z ▸ ea))
  have k2 := Kd.keep (i := i) E3 r1'' r2' d12
  have k3 := Kd.keep (i := i) E3 r1'' r3 d13
  have P1 := Kd.put E3 r1'' (noPin hm)
  exact hr _ o e2 _ H3 D (Kd.put (Kd.put P1 k2 (noPin hm')) (Kd.keep P1 k2 k3 d23) (noPin hm'')) (f.mono (((s1.trans s2).trans s3).mono E))
theorem dbx_expr {e : Expr} {m : T → Option (D × T)} {mr : D × T → Option (Fl N B R)} {pos : Pos} {t : T} (he : DX X c G e m) (hr : ∀ q : D × T, DB X c GN GB RK (G q.2) rest (mr q)) (hs : swapsWith e none pos.line X.env = pure false := by rfl) : DB X c GN GB RK (G t) (.Expr e pos :: rest) ((m t).bind mr) := fun o h σ H D E f => by
  obtain ⟨⟨d, t'⟩, e1, e2⟩ := Option.bind_eq_some_iff.mp h
  exact sSs_cons (ps_expr (pe_s e) hs) (he t d t' e1 σ H _ E fun v H1 E1 s1 r1 => hr (d, t') o e2 _ H1 D E1 (f.mono (s1.mono E)))
theorem dbx_ret {e : Expr} {m : T → Option (D × T)} {g : D × T → R} {pos : Pos} {t : T} (he : DX X c G e m) (hg : ∀ d t' v σ H, EnvOk X.K c σ H (G t') → Rp X.K H v d → RK (g (d, t')) v H) : DB X c GN GB RK (G t) (.Return (some e) pos :: rest) ((m t).map fun p => .rt (g p)) := fun o h σ H D E f => by
  obtain ⟨⟨d, t'⟩, e1, rfl⟩ := Option.map_eq_some_iff.mp h
  exact sSs_cons (ps_ret (pe_s e)) (he t d t' e1 σ H _ E fun v H1 E1 s1 r1 => f.rt _ rfl v H1 (hg d t' v σ H1 E1 r1))
theorem dbx_retF {e : Expr} {m : T → Option (List D × T)} {g : List D × T → R} {pos : Pos} {t : T} (he : DXF X c G e m) (hg : ∀ d t' a xs σ H, EnvOk X.K c σ H (G t') → c.H0 a = none → (∀ p ∈ c.M, p.2 ≠ a) → H a = some (.lst xs) → RpA X.K H xs d → RK (g (d, t')) (.ref a) H) : DB X c GN GB RK (G t) (.Return (some e) pos :: rest) ((m t).map fun p => .rt (g p)) := fun o h σ H D E f => by
  obtain ⟨⟨d, t'⟩, e1, rfl⟩ := Option.map_eq_some_iff.mp h
  refine sSs_cons (ps_ret (pe_s e)) (he t d t' e1 σ H _ E fun a H1 xs hn E1 s1 ha r1 => f.rt _ rfl _ H1 (hg d t' a xs σ H1 E1 (E.fresh0 hn) (fun p hp e => ?_) ha r1))
  obtain ⟨h1, k, h2, h3⟩ := E.pins p hp
  obtain ⟨ys, z, _⟩ := E.owned ⟨p.1, k, h2, h3, h1⟩
  rw [e, hn] at z
  cases z
theorem dbx_if {N1 : Type} (G1 : N1 → Env_) {te : Expr} {a b : List Stmt} {mt : T → Option (Bool × T)} {ma mb : Bool × T → Option (Fl N1 B R)} {mr : N1 → Option (Fl N B R)} {pos : Pos} {t : T} (ht : DXT X c G te mt) (ha : ∀ q : Bool × T, DB X c G1 GB RK (G q.2) a (ma q)) (hb : ∀ q : Bool × T, DB X c G1 GB RK (G q.2) b (mb q)) (hr : ∀ n, DB X c GN GB RK (G1 n) rest (mr n)) :
    DB X c GN GB RK (G t) (.If te a b pos :: rest) (((mt t).bind fun p => if p.1 then ma p else mb p).bind (seqFl mr)) := fun o h σ H D E f => by
  obtain ⟨o1, e1, e2⟩ := Option.bind_eq_some_iff.mp h
  obtain ⟨⟨x, t'⟩, e3, e4⟩ := Option.bind_eq_some_iff.mp e1
  refine sSs_cons (ps_if (pt_s te) (pss_s a) (pss_s b)) (ht t x t' e3 σ H _ E fun H1 E1 s1 => ?_)
  cases x with
  | true => exact iteT (ha (true, t') o1 e4 σ H1 _ E1 (seq_fin e2 hr (f.mono (s1.mono E))))
  | false => exact iteF (hb (false, t') o1 e4 σ H1 _ E1 (seq_fin e2 hr (f.mono (s1.mono E))))
theorem dbx_for {L P : Type} (GL : L → Env_) (l0 : T → L) {js : List Nat} {tg iter : Expr} {body : List Stmt} {pm : D → Option P} {Gt : L → P → Env_} {mi : T → Option (List D × T)} {mb : L → P → Option (Fl L L R)} {mr : L → Option (Fl N B R)} {pos : Pos} {t : T} (hc : X.calm = true) (hx : X.xe = fun _ _ => False) (hi : DXI X c G tg iter mi) (hl : ∀ t', EnvLe (G t') (GL (l0 t')))
    (ht : ∀ l, DG X c js (GL l) tg pm (Gt l)) (hb : ∀ l p, DB X c GL GL RK (Gt l p) body (mb l p)) (hr : ∀ l, DB X c GN GB RK (GL l) rest (mr l)) (hp : ∀ t', pinsIn (c.M.map (·.1)) (GL (l0 t')) = true := by intro _; rfl) (hs : ∀ x, foldedSetIterable iter X.env x = pure x := by intro _; rfl) :
    DB X c GN GB RK (G t) (.For tg iter body [] pos :: rest) (((mi t).bind fun q => forF (fun l x => (pm x).bind (mb l)) q.1 (l0 q.2)).bind (seqLp mr)) := fun o h σ H D E f => by
  obtain ⟨z, e1, e2⟩ := Option.bind_eq_some_iff.mp h
  obtain ⟨⟨ds, t'⟩, e3, e4⟩ := Option.bind_eq_some_iff.mp e1
  have hpo : PassesOwn (model X.prog X.w) X.A X.env X.xe := by rw [hx]; exact PassesOwn.never
  refine sSs_cons (ps_for hpo hc (pi_s tg iter) (pg_s tg) (pss_s body) hs) (hi t ds t' e3 σ H _ E fun J H1 Gd E1 s1 i g => ?_)
  exact for_core ht hb hr e4 e2 i g (E1.le (hl t') (pinsIn_iff (hp t'))) (f.mono (s1.mono E))
def bindX' {α β : Type} (m : T → Option (α × T)) (g : α → T → Option β) : T → Option (β × T) := fun t => (m t).bind fun p => (g p.1 p.2).map fun z => (z, p.2)
theorem dbx_append (ds : T → List D) {x : Str} {e : Expr} {m : T → Option (D × T)} {mr : List D × T → Option (Fl N B R)} {pos p1 p2 p3 : Pos} {t : T} (j : Nat) (he : DX X c G e m) (h : ∀ t', (G t')[j]? = some (.own (ds t'))) (hr : ∀ q : List D × T, DB X c GN GB RK ((G q.2).set j (.own q.1)) rest (mr q)) (hN : X.N[j]? = some x := by rfl) (hv : Vis X.env.scope x := by first | exact Or.inl rfl | exact Or.inr (Or.inl rfl) | exact Or.inr (Or.inr rfl))
    (na : starEach [e] X.env = (false, eval e X.env) :: starEach [] X.env := by rfl)
    (hfew : ((backTo p3 (starEach [e] X.env)).all (fun x => !x.1) && (backToKw p3 (keywordEach [] X.env)).all (fun x => x.1.isSome) && decide (([e] : List Expr).length + ([] : List Keyword).length + (if ([] : List Keyword).isEmpty then 0 else 1) < 30)) = true := by rfl)
    (hs : swapsWith (.Call (.Attribute (.Name x p1) "append" p2) [e] [] p3) none pos.line X.env = pure false := by rfl) (hb : attributeBase (.Name x p1) "append" X.env (eval (.Name x p1) X.env) = eval (.Name x p1) X.env := by rfl) (hln : (p2.endLine == p3.line) = true := by rfl) (hd : (x == ("__debug__" : Str)) = false := by decide) (hcd : (x == ("__classdict__" : Str)) = false := by decide) :
    DB X c GN GB RK (G t) (.Expr (.Call (.Attribute (.Name x p1) "append" p2) [e] [] p3) pos :: rest) ((bindX' m (fun d t' => appD (ds t') d) t).bind mr) := fun o h' σ H D E f => by
  obtain ⟨⟨es, t'⟩, e0, e2⟩ := Option.bind_eq_some_iff.mp h'
  obtain ⟨⟨d, t1⟩, e1, e3⟩ := Option.bind_eq_some_iff.mp e0
  obtain ⟨es', e4, e5⟩ := Option.map_eq_some_iff.mp e3
  cases e5
  replace e4 : appD (ds t1) d = some es := e4
  unfold appD at e4
  split at e4
  · rename_i hz
    cases e4
    refine sSs_cons (ps_expr (pe_bm PySem.F.plainAttrs_list PySem.F.slot_list_append PySem.F.type_list_append mt_append (pe_var hN hv hd hcd) (pa_cons (pe_s e) pa_nil na) (hbase := hb) (hfew := hfew) (hline := hln) (hs := na)) hs) ?_
    obtain ⟨a, xs, ea, ha, r⟩ := E.ownAt (h t)
    refine ⟨_, ea, .inl ⟨rfl, _, .inl (.inl ha)⟩, he t d _ e1 σ H _ E fun v H1 E1 s1 r1 => ?_⟩
    obtain ⟨a', ys, ea', ha', r'⟩ := E1.ownAt (h _)
    rw [ea] at ea'
    cases ea'
    refine ⟨a, ys, v, rfl, rfl, ha', ?_, ?_⟩
    · rw [r'.length]
      exact Nat.lt_of_lt_of_le hz (by decide)
    · have mo : Mono H1 (upd H1 a (.lst (ys ++ [v]))) := ⟨fun b zs hb => by rw [upd_ne (ne_of hb ha' (by intro z; cases z))]; exact hb, fun b o u hb => by rw [upd_ne (ne_of hb ha' (by intro z; cases z))]; exact hb⟩
      have E2 := E1.write (es := ds _ ++ [d]) (ys := ys ++ [v]) (h _) ea (H' := upd H1 a (.lst (ys ++ [v]))) (fun b o hb hne => by rw [upd_ne hne]; exact hb) upd_same ((r'.snoc r1).mono mo)
      exact hr _ o e2 σ _ D E2 (f.mono ((s1.mono E).trans mo))
  · cases e4
end
end DL

set_option Elab.async false
set_option linter.all false
set_option maxRecDepth 100000
set_option maxHeartbeats 2000000
set_option autoImplicit false
namespace DL
open PySem PySem.Spec PyProof.Rows L2
section
variable {X : Cx} {c : FC} {Γ : Env_} {N B R : Type} {GN : N → Env_} {GB : B → Env_} {RK : R → V → Hp → Prop} {rest : List Stmt}
/-! xs[i] = e -/
def setD (ds : List D) (i d : D) : Option (List D) := (isI i).bind fun k => (ixN ds.length k).map fun j => ds.set j d
theorem set_core {σ : St} {H : Hp} {j : Nat} {ds es : List D} {d q : D} {v w : V} {a : Addr} {xs : List V} {Q : Hp → Prop} (E : EnvOk X.K c σ H Γ) (h : Γ[j]? = some (.own ds)) (ea : σ[j]? = some (some (.ref a))) (ha : H a = some (.lst xs)) (r : RpA X.K H xs ds) (rv : Rp X.K H v d) (rw_ : Rp X.K H w q)
    (e : setD ds q d = some es) (k : ∀ H', Mono H H' → EnvOk X.K c σ H' (Γ.set j (.own es)) → Q H') : rSetL (.ref a) w v H Q := by
  obtain ⟨kk, e1, e2⟩ := Option.bind_eq_some_iff.mp e
  obtain ⟨jj, e3, rfl⟩ := Option.map_eq_some_iff.mp e2
  have e4 := isI_eq e1
  subst e4
  refine ⟨a, xs, kk, jj, rfl, RpW.int (.st rw_), ha, by rw [r.length]; exact e3, ?_⟩
  have mo : Mono H (upd H a (.lst (xs.set jj v))) := ⟨fun b zs hb => by rw [upd_ne (ne_of hb ha (by intro z; cases z))]; exact hb, fun b o u hb => by rw [upd_ne (ne_of hb ha (by intro z; cases z))]; exact hb⟩
  exact k _ mo (E.write (es := ds.set jj d) (ys := xs.set jj v) h ea (H' := upd H a (.lst (xs.set jj v))) (fun b o hb hne => by rw [upd_ne hne]; exact hb) upd_same ((RpA.set rv jj r).mono mo))
theorem db_set (j : Nat) {ds : List D} {x : Str} {e i : Expr} {me mi : Option D} {mr : List D → Option (Fl N B R)} {pos p1 p2 : Pos} (he : DE X c Γ e me) (hi : DE X c Γ i mi) (hr : ∀ es, DB X c GN GB RK (Γ.set j (.own es)) rest (mr es)) (h : Γ[j]? = some (.own ds) := by rfl) (hN : X.N[j]? = some x := by rfl) (hv : Vis X.env.scope x := by first | exact Or.inl rfl | exact Or.inr (Or.inl rfl) | exact Or.inr (Or.inr rfl))
    (hs : swapsWithSole [.Subscript (.Name x p1) i p2] e pos.line X.env = pure false := by rfl) (hw : swappedStores [.Subscript (.Name x p1) i p2] e X.env = pure none := by rfl) (h1 : (assignEach [.Subscript (.Name x p1) i p2] X.env).map (·.2) = [assign (.Subscript (.Name x p1) i p2) X.env] := by rfl)
    (ha : ∀ v, assign (.Subscript (.Name x p1) i p2) X.env v = (do
      let ov ← holding [v] (eval (.Name x p1) X.env)
      let iv ← holding [v, ov] (eval i X.env)
      standAt p2
      holding [v, ov, iv] (setItem ov iv v)
      release [v, ov, iv] []) := by intro _; rfl) (hd : (x == ("__debug__" : Str)) = false := by decide) (hcd : (x == ("__classdict__" : Str)) = false := by decide) :
    DB X c GN GB RK Γ (.Assign [.Subscript (.Name x p1) i p2] e pos :: rest) ((me.bind fun d => mi.bind fun q => setD ds q d).bind mr) := fun o h' σ H D E f => by
  obtain ⟨es, e0, e2⟩ := Option.bind_eq_some_iff.mp h'
  obtain ⟨d, e1, e3⟩ := Option.bind_eq_some_iff.mp e0
  obtain ⟨q, e4, e5⟩ := Option.bind_eq_some_iff.mp e3
  refine sSs_cons (ps_asg (pe_s e) (pg_sub (pe_var hN hv hd hcd) (pe_s i) set_list ha) hs hw h1) (he d e1 σ H _ E fun v H1 s1 r1 => ?_)
  obtain ⟨a, xs, ea, hl, r⟩ := (E.same s1).ownAt h
  refine ⟨_, ea, hi q e4 σ H1 _ (E.same s1) fun w H2 s2 r2 => ?_⟩
  exact set_core ((E.same s1).same s2) h ea (s2 _ _ hl) (r.mono (.of_same s2)) (r1.mono (.of_same s2)) r2 e5 fun H' mo E' => hr _ o e2 σ H' D E' (f.mono ((Mono.of_same (s1.trans s2)).trans mo))
/-! a held list stands still from here on -/
theorem db_frz (i : Nat) {ds : List D} {sts : List Stmt} {m : Option (Fl N B R)} (hr : DB X c GN GB RK (Γ.set i (.imm (.list ds))) sts m) (h : Γ[i]? = some (.own ds) := by rfl) (hm : (c.M.map (·.1)).contains i = false := by rfl) : DB X c GN GB RK Γ sts m := fun o e σ H D E f => fun pins s I => by
  obtain ⟨a, xs, ea, ha, r⟩ := E.ownAt h
  obtain ⟨od, I1⟩ := I.lock ha trivial
  have hil : i < Γ.length := (List.getElem?_eq_some_iff.mp h).1
  have keep : ∀ b u, H b = some u → b ≠ a → upd H a (.frz od (.lst xs)) b = some u := fun b u hb hne => by
    rw [upd_ne hne]
    exact hb
  have mo : Mono H (upd H a (.frz od (.lst xs))) := ⟨fun b zs hb => keep b _ hb (ne_of hb ha (by intro z; cases z)), fun b o u hb => keep b _ hb (ne_of hb ha (by intro z; cases z))⟩
  have back : ∀ {j : Nat} {q : Cell}, (Γ.set i (.imm (.list ds)))[j]? = some q → q.isOwn = true → j ≠ i ∧ Γ[j]? = some q := fun {j q} h1 h2 => by
    by_cases ej : i = j
    · subst ej
      rw [List.getElem?_set_self hil] at h1
      cases h1
      cases h2
    · rw [List.getElem?_set_ne ej] at h1
      exact ⟨fun z => ej z.symm, h1⟩
  have hna : ∀ j q, j ≠ i → Γ[j]? = some q → q.isOwn = true → σ[j]? = some (some (.ref a)) → False := fun j q hj h1 h2 h3 => E.apart i j _ q a (Ne.symm hj) h rfl h1 h2 ea h3
  have E' : EnvOk X.K c σ (upd H a (.frz od (.lst xs))) (Γ.set i (.imm (.list ds))) := by
    refine ⟨fun j k hk => ?_, fun j l k q b hjl h1 h2 h3 h4 h5 h6 => E.apart j l k q b hjl (back h1 h2).2 h2 (back h3 h4).2 h4 h5 h6, fun b u hb hM => keep b u (E.pres b u hb hM) fun z => ?_, fun b ⟨j, k, h1, h2, h3⟩ => E.new b ⟨j, k, (back h1 h2).2, h2, h3⟩, fun p hp => ?_, by rw [List.length_set]; exact E.len⟩
    · by_cases ej : i = j
      · subst ej
        rw [List.getElem?_set_self hil] at hk
        cases hk
        exact ⟨_, ea, .lst (.inl ⟨od, upd_same⟩) (r.mono mo)⟩
      · rw [List.getElem?_set_ne ej] at hk
        exact (E.cells j k hk).keep mo fun ho b u e1 hb => keep b u hb fun q' => hna j k (fun z => ej z.symm) hk ho (q' ▸ e1)
    · rcases E.new a ⟨i, _, h, rfl, ea⟩ with ⟨p, hp, ep⟩ | z0
      · exact hM p hp (ep.trans z.symm)
      · rw [z, z0] at hb
        cases hb
    · obtain ⟨h1, k, h2, h3⟩ := E.pins p hp
      refine ⟨h1, k, ?_, h3⟩
      rw [List.getElem?_set_ne (Ne.symm (noPin hm p hp))]
      exact h2
  exact hr o e σ _ D E' (f.mono mo) pins s I1
/-! displays with stars -/
/-- an argument list's own meaning, stars and all -/
def sA (X : Cx) (es : List Expr) : TA := fun σ H Q => ∀ (pos : Pos) (pins : List (Addr × Obj)) (s : Shared), Inv X pins σ H s → wpAny (model X.prog X.w) X.A (spliced (backTo pos (starEach es X.env))) (AP X pins σ Q) X.xe s
theorem pa_sA (es : List Expr) : PA X es (sA X es) := ⟨fun pos pins s _ _ _ I h => h pos pins s I⟩
theorem sA_of {es : List Expr} {t : TA} {σ : St} {H : Hp} {Q : List V → Hp → Prop} (h : PA X es t) (q : t σ H Q) : sA X es σ H Q := fun pos pins s I => h.run pos pins s σ H Q I q
end
section
variable (X : Cx) (c : FC) (Γ : Env_)
def DAs (es : List Expr) (m : Option (List D)) : Prop := ∀ ds, m = some ds → ∀ (σ : St) (H : Hp) (Q : List V → Hp → Prop), EnvOk X.K c σ H Γ → (∀ vs H', Same H H' → RpA X.K H' vs ds → Q vs H') → sA X es σ H Q
end
section
variable (X : Cx) (c : FC) {T : Type} (G : T → Env_)
def DXAs (es : List Expr) (m : T → Option (List D × T)) : Prop := ∀ t ds t', m t = some (ds, t') → ∀ (σ : St) (H : Hp) (Q : List V → Hp → Prop), EnvOk X.K c σ H (G t) → (∀ vs H', EnvOk X.K c σ H' (G t') → Step (G t) (G t') σ H H' → RpA X.K H' vs ds → Q vs H') → sA X es σ H Q
end
section
variable {X : Cx} {c : FC} {Γ : Env_}
theorem das_nil : DAs X c Γ [] (some []) := fun ds hd σ H Q E k => by
  cases hd
  exact sA_of pa_nil (k [] H (Same.refl H) .nil)
theorem das_cons {e : Expr} {es : List Expr} {m : Option D} {ms : Option (List D)} (h : DE X c Γ e m) (hs : DAs X c Γ es ms) (hst : starEach (e :: es) X.env = (false, eval e X.env) :: starEach es X.env := by rfl) : DAs X c Γ (e :: es) (consO m ms) := fun ds hd σ H Q E k => by
  obtain ⟨x, e1, e2⟩ := Option.bind_eq_some_iff.mp hd
  obtain ⟨xs, e3, rfl⟩ := Option.map_eq_some_iff.mp e2
  exact sA_of (pa_cons (pe_s e) (pa_sA es) hst) (h x e1 σ H _ E fun v H1 s1 r1 => hs xs e3 σ H1 _ (E.same s1) fun vs H2 s2 r2 => k _ _ (s1.trans s2) (.cons (r1.mono (.of_same s2)) r2))
def starO (m : Option D) (ms : Option (List D)) : Option (List D) := (m.bind iterD).bind fun x => ms.map (x ++ ·)
theorem RpW.items {K : Fr_} {H : Hp} {v : V} {d : D} {ds : List D} (r : RpW K H v d) (e : iterD d = some ds) : ∃ p xs, v = .ref p ∧ (SqT K H p xs ∨ SqL K H p xs) ∧ RpA K H xs ds := by
  cases d with
  | list ds' =>
    cases e
    obtain ⟨a, xs, rfl, h, q⟩ := r.list
    exact ⟨a, xs, rfl, .inr h, q⟩
  | tuple ds' =>
    cases e
    obtain ⟨a, xs, rfl, h, q⟩ := r.tuple
    exact ⟨a, xs, rfl, .inl h, q⟩
  | _ => cases e
theorem das_star {e : Expr} {es : List Expr} {p : Pos} {m : Option D} {ms : Option (List D)} (h : DW X c Γ e m) (hs : DAs X c Γ es ms) (hst : starEach (.Starred e p :: es) X.env = (true, eval e X.env) :: starEach es X.env := by rfl) : DAs X c Γ (.Starred e p :: es) (starO m ms) := fun ds hd σ H Q E k => by
  obtain ⟨x, e1, e2⟩ := Option.bind_eq_some_iff.mp hd
  obtain ⟨d, e0, e4⟩ := Option.bind_eq_some_iff.mp e1
  obtain ⟨xs, e3, rfl⟩ := Option.map_eq_some_iff.mp e2
  refine sA_of (StX.pa_star (pe_s e) (pa_sA es) hst) (h d e0 σ H _ E fun v H1 s1 r1 => ?_)
  obtain ⟨a, ys, rfl, hq, r⟩ := r1.items e4
  exact ⟨a, ys, rfl, hq, hs xs e3 σ H1 _ (E.same s1) fun vs H2 s2 r2 => k _ _ (s1.trans s2) ((r.mono (.of_same s2)).append r2)⟩
theorem de_tupS {es : List Expr} {m : Option (List D)} {x1 : Nat} {pos : Pos} (h : DAs X c Γ es m) : DE X c Γ (.Tuple es x1 pos) ((lenOk m).map .tuple) := fun d hd σ H Q E k => by
  obtain ⟨ds, e0, rfl⟩ := Option.map_eq_some_iff.mp hd
  obtain ⟨ds', e1, e2⟩ := Option.bind_eq_some_iff.mp e0
  split at e2
  · rename_i hl
    cases e2
    refine sE_of (pe_tup' (pa_sA es)) (h _ e1 σ H _ E fun vs H1 s1 r1 => ⟨?_, fun p u hp hu => ?_⟩)
    · rw [r1.length]
      exact Nat.le_trans hl (by decide)
    · exact k _ _ (s1.trans (Same.new hp)) (.tup (.of hu upd_same) (r1.mono (.of_same (Same.new hp))))
  · cases e2
theorem df_lstS {es : List Expr} {m : Option (List D)} {pos : Pos} (h : DAs X c Γ es m) : DF X c Γ (.List es pos) (lenOk m) := fun d hd σ H Q E k => by
  obtain ⟨ds', e1, e2⟩ := Option.bind_eq_some_iff.mp hd
  split at e2
  · rename_i hl
    cases e2
    refine sE_of (pe_lst (pa_sA es)) (h _ e1 σ H _ E fun vs H1 s1 r1 => ⟨?_, fun p hp => ?_⟩)
    · rw [r1.length]
      exact Nat.le_trans hl (by decide)
    · exact k _ _ _ (s1.free hp) (s1.trans (Same.new hp)) upd_same (r1.mono (.of_same (Same.new hp)))
  · cases e2
end
section
variable {X : Cx} {c : FC} {T : Type} {G : T → Env_}
theorem dxas_nil : DXAs X c G [] (fun t => some ([], t)) := fun t ds t' hd σ H Q E k => by
  cases hd
  exact sA_of pa_nil (k [] H E (.refl E) .nil)
theorem dxas_cons {e : Expr} {es : List Expr} {m : T → Option (D × T)} {ms : T → Option (List D × T)} (h : DX X c G e m) (hs : DXAs X c G es ms) (hst : starEach (e :: es) X.env = (false, eval e X.env) :: starEach es X.env := by rfl) : DXAs X c G (e :: es) (consX m ms) := fun t ds t' hd σ H Q E k => by
  obtain ⟨⟨x, t1⟩, e1, e2⟩ := Option.bind_eq_some_iff.mp hd
  obtain ⟨⟨xs, t2⟩, e3, e4⟩ := Option.map_eq_some_iff.mp e2
  cases e4
  exact sA_of (pa_cons (pe_s e) (pa_sA es) hst) (h t x t1 e1 σ H _ E fun v H1 E1 s1 r1 => hs t1 xs _ e3 σ H1 _ E1 fun vs H2 E2 s2 r2 => k _ _ E2 (s1.trans s2) (.cons (r1.mono (s2.mono E1)) r2))
def starX (m : T → Option (D × T)) (ms : T → Option (List D × T)) : T → Option (List D × T) := fun t => (bindX m iterD t).bind fun p => (ms p.2).map fun q => (p.1 ++ q.1, q.2)
theorem dxas_star {e : Expr} {es : List Expr} {p : Pos} {m : T → Option (D × T)} {ms : T → Option (List D × T)} (h : DX X c G e m) (hs : DXAs X c G es ms) (hst : starEach (.Starred e p :: es) X.env = (true, eval e X.env) :: starEach es X.env := by rfl) : DXAs X c G (.Starred e p :: es) (starX m ms) := fun t ds t' hd σ H Q E k => by
  obtain ⟨⟨x, t1⟩, e1, e2⟩ := Option.bind_eq_some_iff.mp hd
  obtain ⟨d, e0, e5⟩ := bindX_eq e1
  obtain ⟨⟨xs, t2⟩, e3, e4⟩ := Option.map_eq_some_iff.mp e2
  cases e4
  refine sA_of (StX.pa_star (pe_s e) (pa_sA es) hst) (h t d t1 e0 σ H _ E fun v H1 E1 s1 r1 => ?_)
  cases d with
  | list ds' =>
    cases e5
    cases r1 with
    | lst hz r => exact ⟨_, _, rfl, .inr hz.sq, hs t1 xs _ e3 σ H1 _ E1 fun vs H2 E2 s2 r2 => k _ _ E2 (s1.trans s2) ((r.mono (s2.mono E1)).append r2)⟩
  | tuple ds' =>
    cases e5
    cases r1 with
    | tup hz r => exact ⟨_, _, rfl, .inl hz.sq, hs t1 xs _ e3 σ H1 _ E1 fun vs H2 E2 s2 r2 => k _ _ E2 (s1.trans s2) ((r.mono (s2.mono E1)).append r2)⟩
  | _ => cases e5
theorem dx_tupS {es : List Expr} {m : T → Option (List D × T)} {x1 : Nat} {pos : Pos} (h : DXAs X c G es m) : DX X c G (.Tuple es x1 pos) (tupX m) := fun t d t' hd σ H Q E k => by
  obtain ⟨⟨ds, t1⟩, e0, e00⟩ := Option.map_eq_some_iff.mp hd
  cases e00
  obtain ⟨⟨ds', t2⟩, e1, e2⟩ := Option.bind_eq_some_iff.mp e0
  split at e2
  · rename_i hl
    cases e2
    refine sE_of (pe_tup' (pa_sA es)) (h t _ _ e1 σ H _ E fun vs H1 E1 s1 r1 => ⟨?_, fun p u hp hu => ?_⟩)
    · rw [r1.length]
      exact Nat.le_trans hl (by decide)
    · exact k _ _ (E1.same (Same.new hp)) (s1.trans (.of_same E1 (Same.new hp))) (.tup (.of hu upd_same) (r1.mono (.of_same (Same.new hp))))
  · cases e2
theorem dxf_lstS {es : List Expr} {m : T → Option (List D × T)} {pos : Pos} (h : DXAs X c G es m) : DXF X c G (.List es pos) (lenOkX m) := fun t d t' hd σ H Q E k => by
  obtain ⟨⟨ds', t2⟩, e1, e2⟩ := Option.bind_eq_some_iff.mp hd
  split at e2
  · rename_i hl
    cases e2
    refine sE_of (pe_lst (pa_sA es)) (h t _ _ e1 σ H _ E fun vs H1 E1 s1 r1 => ⟨?_, fun p hp => ?_⟩)
    · rw [r1.length]
      exact Nat.le_trans hl (by decide)
    · exact k _ _ _ (s1.free E hp) (E1.same (Same.new hp)) (s1.trans (.of_same E1 (Same.new hp))) upd_same (r1.mono (.of_same (Same.new hp)))
  · cases e2
end
end DL

set_option Elab.async false
set_option linter.all false
set_option maxRecDepth 100000
set_option maxHeartbeats 2000000
set_option autoImplicit false
namespace DL
open PySem PySem.Spec PyProof.Rows L2
/-! ### comprehensions -/
theorem wipe_at (σ : St) (i : Nat) : ∀ vs : List Nat, (wipe σ vs)[i]? = if i ∈ vs then (σ[i]?).map (fun _ => none) else σ[i]?
  | [] => by simp [wipe]
  | v :: vs => by
    unfold wipe
    by_cases h : v = i
    · subst h
      rw [if_pos List.mem_cons_self, List.getElem?_set, if_pos rfl, wipe_length]
      by_cases hl : v < σ.length
      · rw [if_pos hl, List.getElem?_eq_getElem hl]
        rfl
      · rw [if_neg hl, List.getElem?_eq_none (by omega)]
        rfl
    · rw [List.getElem?_set_ne h, wipe_at σ i vs]
      have e : (i ∈ v :: vs) = (i ∈ vs) := by
        rw [List.mem_cons]
        exact propext ⟨fun z => z.resolve_left fun q => h q.symm, .inr⟩
      simp only [e]
theorem wipe_only {js vs : List Nat} {σ σ2 : St} (o : OnlyAt js (wipe σ vs) σ2) (h : ∀ j ∈ js, j ∈ vs) : wipe σ2 vs = wipe σ vs := by
  apply List.ext_getElem?
  intro i
  rw [wipe_at, wipe_at]
  by_cases hi : i ∈ vs
  · rw [if_pos hi, if_pos hi]
    have l : σ2.length = σ.length := by rw [o.1, wipe_length]
    by_cases hl : i < σ.length
    · rw [List.getElem?_eq_getElem hl, List.getElem?_eq_getElem (by omega : i < σ2.length)]
      rfl
    · rw [List.getElem?_eq_none (by omega), List.getElem?_eq_none (by omega)]
  · rw [if_neg hi, if_neg hi, o.2 i fun z => hi (h i z), wipe_at, if_neg hi]
def wipeC (Γ : Env_) : List Nat → Env_
  | [] => Γ
  | v :: vs => (wipeC Γ vs).set v .any
theorem EnvOk.setAny {K : Fr_} {c : FC} {σ : St} {H : Hp} {Γ : Env_} (E : EnvOk K c σ H Γ) {i : Nat} {o : Option V} (hm : ∀ p ∈ c.M, p.1 ≠ i) : EnvOk K c (σ.set i o) H (Γ.set i .any) := by
  have own_of : ∀ {j : Nat} {k : Cell}, (Γ.set i .any)[j]? = some k → k.isOwn = true → j ≠ i ∧ Γ[j]? = some k := fun {j k} h ho => by
    by_cases e : i = j
    · subst e
      rw [List.getElem?_set] at h
      simp at h
      obtain ⟨_, h⟩ := h
      subst h
      cases ho
    · rw [List.getElem?_set_ne e] at h
      exact ⟨fun q => e q.symm, h⟩
  refine ⟨fun j k h => ?_, fun j l k q a hjl h1 h2 h3 h4 h5 h6 => ?_, E.pres, fun a ⟨j, k, h1, h2, h3⟩ => ?_, fun p hp => ?_, by rw [List.length_set, List.length_set, E.len]⟩
  · by_cases e : i = j
    · subst e
      rw [List.getElem?_set] at h
      simp at h
      obtain ⟨_, h⟩ := h
      subst h
      trivial
    · rw [List.getElem?_set_ne e] at h ⊢
      exact E.cells j k h
  · obtain ⟨n1, g1⟩ := own_of h1 h2
    obtain ⟨n2, g2⟩ := own_of h3 h4
    rw [List.getElem?_set_ne (Ne.symm n1)] at h5
    rw [List.getElem?_set_ne (Ne.symm n2)] at h6
    exact E.apart j l k q a hjl g1 h2 g2 h4 h5 h6
  · obtain ⟨n1, g1⟩ := own_of h1 h2
    rw [List.getElem?_set_ne (Ne.symm n1)] at h3
    exact E.new a ⟨j, k, g1, h2, h3⟩
  · obtain ⟨h1, k, h2, h3⟩ := E.pins p hp
    have n := hm p hp
    rw [List.getElem?_set_ne (Ne.symm n), List.getElem?_set_ne (Ne.symm n)]
    exact ⟨h1, k, h2, h3⟩
theorem EnvOk.wipe {K : Fr_} {c : FC} {σ : St} {H : Hp} {Γ : Env_} (E : EnvOk K c σ H Γ) : ∀ {vs : List Nat}, (∀ v ∈ vs, ∀ p ∈ c.M, p.1 ≠ v) → EnvOk K c (L2.wipe σ vs) H (wipeC Γ vs)
  | [], _ => E
  | v :: vs, h => (EnvOk.wipe E fun w hw => h w (List.mem_cons_of_mem _ hw)).setAny (h v List.mem_cons_self)
def pinsOut (c : FC) (vs : List Nat) : Bool := vs.all fun v => !((c.M.map (·.1)).contains v)
theorem pinsOut_iff {c : FC} {vs : List Nat} (h : pinsOut c vs = true) : ∀ v ∈ vs, ∀ p ∈ c.M, p.1 ≠ v := fun v hv => noPin (by
  have q := List.all_eq_true.mp h v hv
  simpa using q)
/-- a clause's tests, their own meaning -/
def sTs (X : Cx) (ifs : List Expr) : TT := fun σ H Q => ∃ t : TT, PTs X ifs t ∧ t σ H Q
theorem pts_s {X : Cx} {ifs : List Expr} : PTs X ifs (sTs X ifs) := ⟨fun pins s σ H Q I ⟨t, h, q⟩ => h.run pins s σ H Q I q⟩
def DTs (X : Cx) (c : FC) (Γ : Env_) (ifs : List Expr) (m : Option Bool) : Prop := ∀ b, m = some b → ∀ (σ : St) (H : Hp) (Q : Bool → Hp → Prop), EnvOk X.K c σ H Γ → (∀ H', Same H H' → Q b H') → sTs X ifs σ H Q
def DXTs (X : Cx) (c : FC) {T : Type} (G : T → Env_) (ifs : List Expr) (m : T → Option (Bool × T)) : Prop := ∀ t b t', m t = some (b, t') → ∀ (σ : St) (H : Hp) (Q : Bool → Hp → Prop), EnvOk X.K c σ H (G t) → (∀ H', EnvOk X.K c σ H' (G t') → Step (G t) (G t') σ H H' → Q b H') → sTs X ifs σ H Q
section
variable {X : Cx} {c : FC} {Γ : Env_}
theorem dts_nil : DTs X c Γ [] (some true) := fun b hb σ H Q E k => by
  cases hb
  exact ⟨tYes, pts_nil, k H (Same.refl H)⟩
theorem dts_one {e : Expr} {m : Option Bool} (h : DT X c Γ e m) : DTs X c Γ [e] m := fun b hb σ H Q E k => ⟨_, pts_one (pt_s e), h b hb σ H Q E k⟩
theorem dxts_lift {T : Type} {G : T → Env_} {ifs : List Expr} {m : T → Option Bool} (h : ∀ t, DTs X c (G t) ifs (m t)) : DXTs X c G ifs (liftX m) := fun t d t' hd σ H Q E k => by
  obtain ⟨e1, rfl⟩ := liftX_eq hd
  exact h _ d e1 σ H Q E fun H' s => k H' (E.same s) (.of_same E s)
theorem dxts_one {T : Type} {G : T → Env_} {e : Expr} {m : T → Option (Bool × T)} (h : DXT X c G e m) : DXTs X c G [e] m := fun t b t' hb σ H Q E k => ⟨_, pts_one (pt_s e), h t b t' hb σ H Q E k⟩
end
abbrev Blk (X : Cx) (scope : Scope) (s : Shared) (H : Hp) (C : Addr) (cl : List (Str × Addr)) (fp : List Addr) : Cx := X.blk s H scope (compEnvC scope cl C X.env) fp
def gB (X : Cx) (scope : Scope) (tg : Expr) : TG := fun v σ H Q => ∀ s H0 C cl fp, sG (Blk X scope s H0 C cl fp) tg v σ H Q
def tB (X : Cx) (scope : Scope) (ifs : List Expr) : TT := fun σ H Q => ∀ s H0 C cl fp, sTs (Blk X scope s H0 C cl fp) ifs σ H Q
def eB (X : Cx) (scope : Scope) (e : Expr) : TE := fun σ H Q => ∀ s H0 C cl fp, sE (Blk X scope s H0 C cl fp) e σ H Q
section
variable {X : Cx} {scope : Scope}
theorem pg_B (tg : Expr) (s : Shared) (H0 : Hp) (C : Addr) (cl : List (Str × Addr)) (fp : List Addr) : PG (X.blk s H0 scope (compEnvC scope cl C X.env) fp) tg (gB X scope tg) := ⟨fun pins s2 σ H v u Q I r h => (pg_s tg).run pins s2 σ H v u Q I r (h s H0 C cl fp)⟩
theorem pt_B (ifs : List Expr) (s : Shared) (H0 : Hp) (C : Addr) (cl : List (Str × Addr)) (fp : List Addr) : PTs (X.blk s H0 scope (compEnvC scope cl C X.env) fp) ifs (tB X scope ifs) := ⟨fun pins s2 σ H Q I h => pts_s.run pins s2 σ H Q I (h s H0 C cl fp)⟩
theorem pe_B (e : Expr) (s : Shared) (H0 : Hp) (C : Addr) (cl : List (Str × Addr)) (fp : List Addr) : PE (X.blk s H0 scope (compEnvC scope cl C X.env) fp) e (eB X scope e) := ⟨fun pins s2 σ H Q I h => (pe_s e).run pins s2 σ H Q I (h s H0 C cl fp)⟩
end
def lcF {P : Type} (pm : D → Option P) (mt : P → Option Bool) (me : P → Option D) : List D → Option (List D)
  | [] => some []
  | x :: r => (pm x).bind fun p => (mt p).bind fun b => if b then (me p).bind fun d => (lcF pm mt me r).map (d :: ·) else lcF pm mt me r
section
variable {X : Cx} {c : FC} {Γ : Env_} {scope : Scope} {P : Type} {js vs : List Nat} {tg iter elt : Expr} {ifs : List Expr} {pm : D → Option P} {Gt : P → Env_} {mt : P → Option Bool} {me : P → Option D} {mi : Option (List D)}
theorem lc_sem {its total : List D} {σ : St} {H : Hp} {Q : VK} (hi : DIw X c Γ tg iter mi) (hg : ∀ s H0 C cl fp, DG (Blk X scope s H0 C cl fp) c js (wipeC Γ vs) tg pm Gt) (ht : ∀ s H0 C cl fp p, DTs (Blk X scope s H0 C cl fp) c (Gt p) ifs (mt p)) (he : ∀ s H0 C cl fp p, DE (Blk X scope s H0 C cl fp) c (Gt p) elt (me p))
    (hp : pinsOut c vs = true) (hjs : ∀ j ∈ js, j ∈ vs) (e1 : mi = some its) (e2 : lcF pm mt me its = some total) (hlen : total.length ≤ 100000) (E : EnvOk X.K c σ H Γ)
    (k : ∀ a H' xs, H a = none → Same H H' → H' a = some (.lst xs) → RpA X.K H' xs total → Q (.ref a) H') : tLc (sI X tg iter) (gB X scope tg) (tB X scope ifs) (eB X scope elt) vs σ H Q := by
  refine hi its e1 σ H _ E fun J H1 Gd s1 i g => ?_
  intro D hD
  have hDH : H D = none := s1.free hD
  refine ⟨fun j m H2 => m = its.length - j ∧ j ≤ its.length ∧ Same H1 H2 ∧ ∃ acc done rest, H2 D = some (.lst acc) ∧ RpA X.K H2 acc done ∧ lcF pm mt me (its.drop j) = some rest ∧ done ++ rest = total,
    ⟨its.length, rfl, Nat.zero_le _, Same.new hD, [], [], total, upd_same, .nil, e2, rfl⟩, ?_⟩
  rintro j m H2 ⟨rfl, hj, sm, acc, done, rest, ha, ra, er, et⟩
  by_cases hlt : j < its.length
  · right
    have hd : its[j]? = some its[j] := List.getElem?_eq_getElem hlt
    rw [List.drop_eq_getElem_cons hlt] at er
    obtain ⟨p, e3, e4⟩ := Option.bind_eq_some_iff.mp er
    obtain ⟨b, e5, e6⟩ := Option.bind_eq_some_iff.mp e4
    have g2 := i.stays H1 H2 g sm
    refine ⟨i.goes j H2 hlt g2, fun H' => Same H1 H' ∧ ∃ acc done rest, H' D = some (.lst acc) ∧ RpA X.K H' acc done ∧ lcF pm mt me (its.drop (j + 1)) = some rest ∧ done ++ rest = total, fun H' q => ⟨its.length - (j + 1), by omega, rfl, hlt, q⟩, fun x H' y => ?_⟩
    obtain ⟨s2, r2⟩ := i.yields j H2 x H' _ hd g2 y
    have Eb : EnvOk X.K c (wipe σ vs) H' (wipeC Γ vs) := (((E.same s1).same (sm.trans s2))).wipe (pinsOut_iff hp)
    intro s H0 C cl fp
    refine hg s H0 C cl fp _ p e3 x (wipe σ vs) H' _ Eb r2 fun σ2 E2 o2 => ⟨wipe_only o2 hjs, ?_⟩
    intro s H0 C cl fp
    refine ht s H0 C cl fp p b e5 σ2 H' _ E2 fun H3 s3 => ?_
    have sa : Same H2 H3 := s2.trans s3
    cases b with
    | false =>
      rw [if_neg Bool.false_ne_true] at e6
      show ite _ _ _
      rw [if_neg Bool.false_ne_true]
      exact ⟨sm.trans sa, acc, done, rest, sa _ _ ha, ra.mono (.of_same sa), e6, et⟩
    | true =>
      rw [if_pos rfl] at e6
      obtain ⟨d, e7, e8⟩ := Option.bind_eq_some_iff.mp e6
      obtain ⟨rest', e9, rfl⟩ := Option.map_eq_some_iff.mp e8
      show ite _ _ _
      rw [if_pos rfl]
      intro s H0 C cl fp
      refine he s H0 C cl fp p d e7 σ2 H3 _ (E2.same s3) fun v H4 s4 r4 => ?_
      have sb : Same H2 H4 := sa.trans s4
      refine ⟨acc, sb _ _ ha, ?_, ?_⟩
      · rw [ra.length]
        have : done.length < total.length := by
          rw [← et, List.length_append, List.length_cons]
          omega
        exact Nat.lt_of_lt_of_le (Nat.lt_of_lt_of_le this hlen) (by decide)
      · have hD4 := sb _ _ ha
        have mo : Mono H4 (upd H4 D (.lst (acc ++ [v]))) := ⟨fun b zs hb => by rw [upd_ne (ne_of hb hD4 (by intro z; cases z))]; exact hb, fun b o u hb => by rw [upd_ne (ne_of hb hD4 (by intro z; cases z))]; exact hb⟩
        refine ⟨fun b o hb => ?_, acc ++ [v], done ++ [d], rest', upd_same, ((ra.mono (.of_same sb)).snoc r4).mono mo, e9, by rw [← et, List.append_assoc]; rfl⟩
        rw [upd_ne (ne_of_none hb hD)]
        exact sb _ _ (sm _ _ hb)
  · left
    have e : j = its.length := by omega
    subst e
    rw [List.drop_length] at er
    cases er
    rw [List.append_nil] at et
    subst et
    exact ⟨i.stops H2 (i.stays H1 H2 g sm), k D H2 acc hDH (s1.trans sm) ha ra⟩
theorem df_lc (own : List (Str × Nat)) {pos : Pos} (hc : X.calm = true) (hN : X.N.Nodup) (hi : DIw X c Γ tg iter mi) (hg : ∀ s H0 C cl fp, DG (Blk X scope s H0 C cl fp) c js (wipeC Γ (own.map (·.2))) tg pm Gt) (ht : ∀ s H0 C cl fp p, DTs (Blk X scope s H0 C cl fp) c (Gt p) ifs (mt p)) (he : ∀ s H0 C cl fp p, DE (Blk X scope s H0 C cl fp) c (Gt p) elt (me p))
    (ok : blkC X.N X.env.scope scope own = true := by rfl) (hp : pinsOut c (own.map (·.2)) = true := by rfl) (hjs : ∀ j ∈ js, j ∈ own.map (·.2) := by decide) (hs : ∀ x, foldedSetIterable iter X.env x = pure x := by intro _; rfl) :
    DF X c Γ (.ListComp elt [⟨tg, iter, ifs, 0⟩] scope pos) (lenOk (mi.bind (lcF pm mt me))) := fun ds hd σ H Q E k => by
  obtain ⟨ds', e0, e3⟩ := Option.bind_eq_some_iff.mp hd
  obtain ⟨its, e1, e2⟩ := Option.bind_eq_some_iff.mp e0
  split at e3
  · rename_i hl
    cases e3
    exact sE_of (pe_lc hc hN (pi_s tg iter) (blkOk_by ok) (fun s H C cl fp => pg_B tg s H C cl fp) (fun s H C cl fp => pt_B ifs s H C cl fp) (fun s H C cl fp => pe_B elt s H C cl fp) hs) (lc_sem hi hg ht he hp hjs e1 e2 hl E k)
  · cases e3
variable {N B R : Type} {GN : N → Env_} {GB : B → Env_} {RK : R → V → Hp → Prop} {rest : List Stmt}
theorem db_setLc (i : Nat) (own : List (Str × Nat)) {y : Str} {py pos spos : Pos} {mr : List D → Option (Fl N B R)} (hc : X.calm = true) (hN : X.N.Nodup) (hi : DIw X c Γ tg iter mi) (hg : ∀ s H0 C cl fp, DG (Blk X scope s H0 C cl fp) c js (wipeC Γ (own.map (·.2))) tg pm Gt) (ht : ∀ s H0 C cl fp p, DTs (Blk X scope s H0 C cl fp) c (Gt p) ifs (mt p)) (he : ∀ s H0 C cl fp p, DE (Blk X scope s H0 C cl fp) c (Gt p) elt (me p))
    (hr : ∀ d, DB X c GN GB RK (Γ.set i (.own d)) rest (mr d)) (hy : X.N[i]? = some y := by rfl) (hyl : X.env.scope.names.lookup y = some .local := by rfl) (hm : (c.M.map (·.1)).contains i = false := by rfl)
    (ok : blkC X.N X.env.scope scope own = true := by rfl) (hp : pinsOut c (own.map (·.2)) = true := by rfl) (hjs : ∀ j ∈ js, j ∈ own.map (·.2) := by decide) (hs : ∀ x, foldedSetIterable iter X.env x = pure x := by intro _; rfl) (hk : X.env.scope.kind = .function := by rfl) (hl : (py.line == pos.line) = true := by rfl) (ha : (scope.names.any fun (n, k) => n == y && (k == .local || k == .cell)) = false := by rfl) :
    DB X c GN GB RK Γ (.Assign [.Name y py] (.ListComp elt [⟨tg, iter, ifs, 0⟩] scope pos) spos :: rest) ((lenOk (mi.bind (lcF pm mt me))).bind mr) := fun o h σ H D E f => by
  obtain ⟨ds, e4, e5⟩ := Option.bind_eq_some_iff.mp h
  obtain ⟨ds', e0, e3⟩ := Option.bind_eq_some_iff.mp e4
  obtain ⟨its, e1, e2⟩ := Option.bind_eq_some_iff.mp e0
  split at e3
  · rename_i hl2
    cases e3
    refine sSs_cons (ps_setLc hc hN hy hyl (sw_true hk hyl hl ha) (pi_s tg iter) (blkOk_by ok) (fun s H C cl fp => pg_B tg s H C cl fp) (fun s H C cl fp => pt_B ifs s H C cl fp) (fun s H C cl fp => pe_B elt s H C cl fp) hs) ?_
    exact lc_sem (σ := σ) (H := H) hi hg ht he hp hjs e1 e2 hl2 E fun a H1 xs hn s1 hx r1 => hr _ o e5 _ H1 D ((E.same s1).setOwn hx r1 (E.notOwn hn) (E.fresh0 hn) (noPin hm)) (f.mono (.of_same s1))
  · cases e3
end
/-! the same with effects -/
def notOwnAt (vs : List Nat) (Γ : Env_) : Bool := vs.all fun v => match Γ[v]? with
  | some k => !k.isOwn
  | none => true
theorem notOwnAt_iff {vs : List Nat} {Γ : Env_} (h : notOwnAt vs Γ = true) : ∀ v ∈ vs, ∀ k, Γ[v]? = some k → k.isOwn = false := fun v hv k e => by
  have q := List.all_eq_true.mp h v hv
  rw [e] at q
  simpa using q
theorem wipeC_at (Γ : Env_) (i : Nat) : ∀ vs : List Nat, (wipeC Γ vs)[i]? = if i ∈ vs then (Γ[i]?).map (fun _ => .any) else Γ[i]?
  | [] => by simp [wipeC]
  | v :: vs => by
    have lw : ∀ us : List Nat, (wipeC Γ us).length = Γ.length := fun us => by
      induction us with
      | nil => rfl
      | cons u us ih => unfold wipeC; rw [List.length_set, ih]
    unfold wipeC
    by_cases h : v = i
    · subst h
      rw [if_pos List.mem_cons_self, List.getElem?_set, if_pos rfl, lw]
      by_cases hl : v < Γ.length
      · rw [if_pos hl, List.getElem?_eq_getElem hl]
        rfl
      · rw [if_neg hl, List.getElem?_eq_none (by omega)]
        rfl
    · rw [List.getElem?_set_ne h, wipeC_at Γ i vs]
      have e : (i ∈ v :: vs) = (i ∈ vs) := by
        rw [List.mem_cons]
        exact propext ⟨fun z => z.resolve_left fun q => h q.symm, .inr⟩
      simp only [e]
theorem owns_wipe {Γ : Env_} {σ : St} {vs : List Nat} {a : Addr} (h : notOwnAt vs Γ = true) : Owns (wipeC Γ vs) (wipe σ vs) a ↔ Owns Γ σ a := by
  constructor
  · rintro ⟨j, k, e1, e2, e3⟩
    rw [wipeC_at] at e1
    by_cases hj : j ∈ vs
    · rw [if_pos hj] at e1
      obtain ⟨_, _, rfl⟩ := Option.map_eq_some_iff.mp e1
      cases e2
    · rw [if_neg hj] at e1
      rw [wipe_at, if_neg hj] at e3
      exact ⟨j, k, e1, e2, e3⟩
  · rintro ⟨j, k, e1, e2, e3⟩
    have hj : j ∉ vs := fun z => by
      rw [notOwnAt_iff h j z k e1] at e2
      cases e2
    exact ⟨j, k, by rw [wipeC_at, if_neg hj]; exact e1, e2, by rw [wipe_at, if_neg hj]; exact e3⟩
theorem Step.wipe {Γ Γ' : Env_} {σ : St} {vs : List Nat} {H H' : Hp} (s : Step Γ Γ' σ H H') (h : notOwnAt vs Γ = true) (h' : notOwnAt vs Γ' = true) : Step (wipeC Γ vs) (wipeC Γ' vs) (L2.wipe σ vs) H H' :=
  ⟨fun b o e n => s.1 b o e fun q => n ((owns_wipe h).mpr q), fun a q => (owns_wipe h).mpr (s.2 a ((owns_wipe h').mp q)), fun a q => s.3 a ((owns_wipe h).mp q)⟩
theorem Step.unwipe {Γ Γ' : Env_} {σ : St} {vs : List Nat} {H H' : Hp} (s : Step Γ Γ' (L2.wipe σ vs) H H') (h : notOwnAt vs Γ = true) (h' : notOwnAt vs Γ' = true) (w : wipeC Γ vs = Γ) (w' : wipeC Γ' vs = Γ') : Step Γ Γ' σ H H' :=
  ⟨fun b o e n => s.1 b o e fun q => n ((owns_wipe h).mp (by rw [w]; exact q)), fun a q => by
    have z := s.2 a (by have y := (owns_wipe (σ := σ) (a := a) h').mpr q; rw [w'] at y; exact y)
    exact (owns_wipe h).mp (by rw [w]; exact z), fun a q => s.3 a (by have y := (owns_wipe (σ := σ) (a := a) h).mpr q; rw [w] at y; exact y)⟩
theorem EnvOk.unwipe {K : Fr_} {c : FC} {σ : St} {H : Hp} {Γ : Env_} {vs : List Nat} (E : EnvOk K c (L2.wipe σ vs) H Γ) (w : wipeC Γ vs = Γ) (hp : ∀ v ∈ vs, ∀ p ∈ c.M, p.1 ≠ v) : EnvOk K c σ H Γ := by
  have any_ : ∀ {i : Nat} {k : Cell}, i ∈ vs → Γ[i]? = some k → k = .any := fun {i k} hi e => by
    rw [← w, wipeC_at, if_pos hi] at e
    obtain ⟨_, _, rfl⟩ := Option.map_eq_some_iff.mp e
    rfl
  have out : ∀ {i : Nat} {k : Cell}, Γ[i]? = some k → k.isOwn = true → i ∉ vs := fun {i k} e ho hi => by
    rw [any_ hi e] at ho
    cases ho
  have at_ : ∀ {i : Nat}, i ∉ vs → (L2.wipe σ vs)[i]? = σ[i]? := fun {i} hi => by rw [wipe_at, if_neg hi]
  refine ⟨fun i k h => ?_, fun i j k l a hij h1 h2 h3 h4 h5 h6 => E.apart i j k l a hij h1 h2 h3 h4 (by rw [at_ (out h1 h2)]; exact h5) (by rw [at_ (out h3 h4)]; exact h6), E.pres, fun a ⟨j, k, h1, h2, h3⟩ => E.new a ⟨j, k, h1, h2, by rw [at_ (out h1 h2)]; exact h3⟩, fun p hq => ?_, by rw [← E.len, wipe_length]⟩
  · by_cases hi : i ∈ vs
    · rw [any_ hi h]
      trivial
    · have z := E.cells i k h
      rw [at_ hi] at z
      exact z
  · obtain ⟨h1, h2⟩ := E.pins p hq
    have hv : p.1 ∉ vs := fun z => hp p.1 z p hq rfl
    rw [at_ hv] at h1
    exact ⟨h1, h2⟩
def lcX {T P : Type} (pm : D → Option P) (mt : P → T → Option (Bool × T)) (me : P → T → Option (D × T)) : List D → T → Option (List D × T)
  | [], t => some ([], t)
  | x :: r, t => (pm x).bind fun p => (mt p t).bind fun q => if q.1 then (me p q.2).bind fun w => (lcX pm mt me r w.2).map fun z => (w.1 :: z.1, z.2) else lcX pm mt me r q.2
section
variable {X : Cx} {c : FC} {T : Type} {G : T → Env_} {scope : Scope} {P : Type} {js vs : List Nat} {tg iter elt : Expr} {ifs : List Expr} {pm : D → Option P} {Gt : T → P → Env_} {mt : P → T → Option (Bool × T)} {me : P → T → Option (D × T)} {mi : T → Option (List D × T)}
theorem lcX_sem {its total : List D} {t t1 t2 : T} {σ : St} {H : Hp} {Q : VK} (hi : DXI X c G tg iter mi) (hg : ∀ s H0 C cl fp t, DG (Blk X scope s H0 C cl fp) c js (G t) tg pm (Gt t)) (ht : ∀ s H0 C cl fp p, DXTs (Blk X scope s H0 C cl fp) c (fun t => Gt t p) ifs (mt p)) (he : ∀ s H0 C cl fp p, DX (Blk X scope s H0 C cl fp) c (fun t => Gt t p) elt (me p))
    (hp : pinsOut c vs = true) (hjs : ∀ j ∈ js, j ∈ vs) (hG : ∀ t, wipeC (G t) vs = G t) (hGt : ∀ t p, wipeC (Gt t p) vs = G t) (hno : ∀ t p, notOwnAt vs (Gt t p) = true) (hno' : ∀ t, notOwnAt vs (G t) = true)
    (e1 : mi t = some (its, t1)) (e2 : lcX pm mt me its t1 = some (total, t2)) (hlen : total.length ≤ 100000) (E : EnvOk X.K c σ H (G t))
    (k : ∀ a H' xs, H a = none → EnvOk X.K c σ H' (G t2) → Step (G t) (G t2) σ H H' → H' a = some (.lst xs) → RpA X.K H' xs total → Q (.ref a) H') : tLc (sI X tg iter) (gB X scope tg) (tB X scope ifs) (eB X scope elt) vs σ H Q := by
  refine hi t its t1 e1 σ H _ E fun J H1 Gd E1 s1 i g => ?_
  intro D hD
  have hDH : H D = none := s1.free E hD
  have hpo := pinsOut_iff hp
  have Ew : ∀ {u : T} {H' : Hp}, EnvOk X.K c σ H' (G u) → EnvOk X.K c (wipe σ vs) H' (G u) := fun {u H'} e => by
    have z := e.wipe hpo (vs := vs)
    rw [hG] at z
    exact z
  refine ⟨fun j m H2 => m = its.length - j ∧ j ≤ its.length ∧ ∃ u, EnvOk X.K c (wipe σ vs) H2 (G u) ∧ Step (G t1) (G u) (wipe σ vs) H1 H2 ∧ ¬ Owns (G u) (wipe σ vs) D ∧ ∃ acc done rest, H2 D = some (.lst acc) ∧ RpA X.K H2 acc done ∧ lcX pm mt me (its.drop j) u = some (rest, t2) ∧ done ++ rest = total,
    ⟨its.length, rfl, Nat.zero_le _, t1, (Ew E1).same (Same.new hD), .of_same (Ew E1) (Same.new hD), (Ew E1).notOwn hD, [], [], total, upd_same, .nil, e2, rfl⟩, ?_⟩
  rintro j m H2 ⟨rfl, hj, u, E2, st, no, acc, done, rest, ha, ra, er, et⟩
  have mo1 : Mono H1 H2 := st.mono (Ew E1)
  by_cases hlt : j < its.length
  · right
    have hd : its[j]? = some its[j] := List.getElem?_eq_getElem hlt
    rw [List.drop_eq_getElem_cons hlt] at er
    obtain ⟨p, e3, e4⟩ := Option.bind_eq_some_iff.mp er
    obtain ⟨⟨b, u1⟩, e5, e6⟩ := Option.bind_eq_some_iff.mp e4
    have g2 := i.stays H1 H2 g mo1
    refine ⟨i.goes j H2 hlt g2, fun H' => ∃ u, EnvOk X.K c (wipe σ vs) H' (G u) ∧ Step (G t1) (G u) (wipe σ vs) H1 H' ∧ ¬ Owns (G u) (wipe σ vs) D ∧ ∃ acc done rest, H' D = some (.lst acc) ∧ RpA X.K H' acc done ∧ lcX pm mt me (its.drop (j + 1)) u = some (rest, t2) ∧ done ++ rest = total, fun H' q => ⟨its.length - (j + 1), by omega, rfl, hlt, q⟩, fun x H' y => ?_⟩
    obtain ⟨s2, r2⟩ := i.yields j H2 x H' _ hd g2 y
    have Ea : EnvOk X.K c (wipe σ vs) H' (G u) := E2.same s2
    intro s H0 C cl fp
    refine hg s H0 C cl fp u _ p e3 x (wipe σ vs) H' _ Ea r2 fun σ2 E3 o2 => ⟨wipe_only o2 hjs, ?_⟩
    have ww := wipe_only o2 hjs
    -- back to the frame with the block's names forgotten
    have back : ∀ {w : T} {H'' : Hp}, EnvOk X.K c σ2 H'' (Gt w p) → EnvOk X.K c (wipe σ vs) H'' (G w) := fun {w H''} e => by
      have z := e.wipe hpo (vs := vs)
      rw [hGt, ww] at z
      exact z
    have backS : ∀ {w w' : T} {Ha Hb : Hp}, Step (Gt w p) (Gt w' p) σ2 Ha Hb → Step (G w) (G w') (wipe σ vs) Ha Hb := fun {w w' Ha Hb} e => by
      have z := e.wipe (hno w p) (hno w' p)
      rw [hGt, hGt, ww] at z
      exact z
    intro s H0 C cl fp
    refine ht s H0 C cl fp p u b u1 e5 σ2 H' _ E3 fun H3 E4 s3 => ?_
    have sa : Step (G u) (G u1) (wipe σ vs) H2 H3 := (Step.of_same E2 s2).trans (backS s3)
    have ha3 : H3 D = some (.lst acc) := sa.1 _ _ ha no
    have no3 : ¬ Owns (G u1) (wipe σ vs) D := fun q => no (sa.2 _ q)
    have ra3 : RpA X.K H3 acc done := ra.mono (sa.mono E2)
    cases b with
    | false =>
      replace e6 : lcX pm mt me (its.drop (j + 1)) u1 = some (rest, t2) := e6
      show ite _ _ _
      rw [if_neg Bool.false_ne_true]
      exact ⟨u1, back E4, st.trans sa, no3, acc, done, rest, ha3, ra3, e6, et⟩
    | true =>
      replace e6 : ((me p u1).bind fun w => (lcX pm mt me (its.drop (j + 1)) w.2).map fun z => (w.1 :: z.1, z.2)) = some (rest, t2) := e6
      obtain ⟨⟨d, u2⟩, e7, e8⟩ := Option.bind_eq_some_iff.mp e6
      obtain ⟨⟨rest', t3⟩, e9, e10⟩ := Option.map_eq_some_iff.mp e8
      cases e10
      show ite _ _ _
      rw [if_pos rfl]
      intro s H0 C cl fp
      refine he s H0 C cl fp p u1 d u2 e7 σ2 H3 _ E4 fun v H4 E5 s4 r4 => ?_
      have sb : Step (G u1) (G u2) (wipe σ vs) H3 H4 := backS s4
      have hD4 : H4 D = some (.lst acc) := sb.1 _ _ ha3 no3
      have no4 : ¬ Owns (G u2) (wipe σ vs) D := fun q => no3 (sb.2 _ q)
      have ra4 := ra3.mono (sb.mono (back E4))
      refine ⟨acc, hD4, ?_, ?_⟩
      · rw [ra.length]
        have : done.length < total.length := by
          rw [← et, List.length_append, List.length_cons]
          omega
        exact Nat.lt_of_lt_of_le (Nat.lt_of_lt_of_le this hlen) (by decide)
      · have keep : ∀ b o, H4 b = some o → b ≠ D → upd H4 D (.lst (acc ++ [v])) b = some o := fun b o hb hne => by
          rw [upd_ne hne]
          exact hb
        have mo : Mono H4 (upd H4 D (.lst (acc ++ [v]))) := ⟨fun b zs hb => keep b _ hb (ne_of hb hD4 (by intro z; cases z)), fun b o u hb => keep b _ hb (ne_of hb hD4 (by intro z; cases z))⟩
        have E6 : EnvOk X.K c (wipe σ vs) (upd H4 D (.lst (acc ++ [v]))) (G u2) := by
          have Eq := back E5
          refine ⟨fun i q hq => ?_, Eq.apart, fun b o hb hM => keep b o (Eq.pres b o hb hM) fun z => ?_, Eq.new, Eq.pins, Eq.len⟩
          · exact (Eq.cells i q hq).keep mo fun ho b u e1 hb => keep b u hb fun q' => no4 ⟨i, q, hq, ho, q' ▸ e1⟩
          · have z0 : H1 D = none := hD
            have z1 : c.H0 D = none := (Ew E1).fresh0 z0
            rw [z, z1] at hb
            cases hb
        have st4 : Step (G t1) (G u2) (wipe σ vs) H1 H4 := (st.trans sa).trans sb
        have ne1 : ∀ b o, H1 b = some o → b ≠ D := fun b o hb => ne_of_none hb hD
        have st5 : Step (G t1) (G u2) (wipe σ vs) H1 (upd H4 D (.lst (acc ++ [v]))) := ⟨fun b o hb hn => keep b o (st4.1 b o hb hn) (ne1 b o hb), st4.2, fun a hw => by
          obtain ⟨xs, e, _⟩ := (Ew E1).owned hw
          rw [upd_ne (ne1 a _ e)]
          exact st4.3 a hw⟩
        exact ⟨u2, E6, st5, no4, acc ++ [v], done ++ [d], rest', upd_same, (ra4.snoc r4).mono mo, e9, by rw [← et, List.append_assoc]; rfl⟩
  · left
    have e : j = its.length := by omega
    subst e
    rw [List.drop_length] at er
    cases er
    rw [List.append_nil] at et
    subst et
    refine ⟨i.stops H2 (i.stays H1 H2 g mo1), ?_⟩
    exact k D H2 acc hDH (E2.unwipe (hG _) hpo) (s1.trans (st.unwipe (hno' _) (hno' _) (hG _) (hG _))) ha ra
theorem dxf_lc (own : List (Str × Nat)) {pos : Pos} (hc : X.calm = true) (hN : X.N.Nodup) (hi : DXI X c G tg iter mi) (hg : ∀ s H0 C cl fp t, DG (Blk X scope s H0 C cl fp) c js (G t) tg pm (Gt t)) (ht : ∀ s H0 C cl fp p, DXTs (Blk X scope s H0 C cl fp) c (fun t => Gt t p) ifs (mt p)) (he : ∀ s H0 C cl fp p, DX (Blk X scope s H0 C cl fp) c (fun t => Gt t p) elt (me p))
    (hG : ∀ t, wipeC (G t) (own.map (·.2)) = G t := by intros; rfl) (hGt : ∀ t p, wipeC (Gt t p) (own.map (·.2)) = G t := by intros; rfl) (hno : ∀ t p, notOwnAt (own.map (·.2)) (Gt t p) = true := by intros; rfl) (hno' : ∀ t, notOwnAt (own.map (·.2)) (G t) = true := by intros; rfl)
    (ok : blkC X.N X.env.scope scope own = true := by rfl) (hp : pinsOut c (own.map (·.2)) = true := by rfl) (hjs : ∀ j ∈ js, j ∈ own.map (·.2) := by decide) (hs : ∀ x, foldedSetIterable iter X.env x = pure x := by intro _; rfl) :
    DXF X c G (.ListComp elt [⟨tg, iter, ifs, 0⟩] scope pos) (lenOkX fun t => (mi t).bind fun q => lcX pm mt me q.1 q.2) := fun t ds t' hd σ H Q E k => by
  obtain ⟨⟨ds', t2⟩, e0, e3⟩ := Option.bind_eq_some_iff.mp hd
  obtain ⟨⟨its, t1⟩, e1, e2⟩ := Option.bind_eq_some_iff.mp e0
  split at e3
  · rename_i hl
    cases e3
    exact sE_of (pe_lc hc hN (pi_s tg iter) (blkOk_by ok) (fun s H C cl fp => pg_B tg s H C cl fp) (fun s H C cl fp => pt_B ifs s H C cl fp) (fun s H C cl fp => pe_B elt s H C cl fp) hs) (lcX_sem hi hg ht he hp hjs hG hGt hno hno' e1 e2 hl E k)
  · cases e3
variable {N B R : Type} {GN : N → Env_} {GB : B → Env_} {RK : R → V → Hp → Prop} {rest : List Stmt}
theorem dbx_setLc (i : Nat) (own : List (Str × Nat)) {y : Str} {py pos spos : Pos} {t : T} {mr : List D × T → Option (Fl N B R)} (hc : X.calm = true) (hN : X.N.Nodup) (hi : DXI X c G tg iter mi) (hg : ∀ s H0 C cl fp t, DG (Blk X scope s H0 C cl fp) c js (G t) tg pm (Gt t)) (ht : ∀ s H0 C cl fp p, DXTs (Blk X scope s H0 C cl fp) c (fun t => Gt t p) ifs (mt p)) (he : ∀ s H0 C cl fp p, DX (Blk X scope s H0 C cl fp) c (fun t => Gt t p) elt (me p))
    (hr : ∀ q : List D × T, DB X c GN GB RK ((G q.2).set i (.own q.1)) rest (mr q)) (hy : X.N[i]? = some y := by rfl) (hyl : X.env.scope.names.lookup y = some .local := by rfl) (hm : (c.M.map (·.1)).contains i = false := by rfl)
    (hG : ∀ t, wipeC (G t) (own.map (·.2)) = G t := by intros; rfl) (hGt : ∀ t p, wipeC (Gt t p) (own.map (·.2)) = G t := by intros; rfl) (hno : ∀ t p, notOwnAt (own.map (·.2)) (Gt t p) = true := by intros; rfl) (hno' : ∀ t, notOwnAt (own.map (·.2)) (G t) = true := by intros; rfl)
    (ok : blkC X.N X.env.scope scope own = true := by rfl) (hp : pinsOut c (own.map (·.2)) = true := by rfl) (hjs : ∀ j ∈ js, j ∈ own.map (·.2) := by decide) (hs : ∀ x, foldedSetIterable iter X.env x = pure x := by intro _; rfl) (hk : X.env.scope.kind = .function := by rfl) (hl : (py.line == pos.line) = true := by rfl) (ha : (scope.names.any fun (n, k) => n == y && (k == .local || k == .cell)) = false := by rfl) :
    DB X c GN GB RK (G t) (.Assign [.Name y py] (.ListComp elt [⟨tg, iter, ifs, 0⟩] scope pos) spos :: rest) ((lenOkX (fun t => (mi t).bind fun q => lcX pm mt me q.1 q.2) t).bind mr) := fun o h σ H D E f => by
  obtain ⟨⟨ds, t'⟩, e4, e5⟩ := Option.bind_eq_some_iff.mp h
  obtain ⟨⟨ds', t2⟩, e0, e3⟩ := Option.bind_eq_some_iff.mp e4
  obtain ⟨⟨its, t1⟩, e1, e2⟩ := Option.bind_eq_some_iff.mp e0
  split at e3
  · rename_i hl2
    cases e3
    refine sSs_cons (ps_setLc hc hN hy hyl (sw_true hk hyl hl ha) (pi_s tg iter) (blkOk_by ok) (fun s H C cl fp => pg_B tg s H C cl fp) (fun s H C cl fp => pt_B ifs s H C cl fp) (fun s H C cl fp => pe_B elt s H C cl fp) hs) ?_
    exact lcX_sem (σ := σ) (H := H) hi hg ht he hp hjs hG hGt hno hno' e1 e2 hl2 E fun a H1 xs hn E1 s1 hx r1 => hr _ o e5 _ H1 D (E1.setOwn hx r1 (fun q => E.notOwn hn (s1.2 _ q)) (E.fresh0 hn) (noPin hm)) (f.mono (s1.mono E))
  · cases e3
end
end DL

set_option Elab.async false
set_option linter.all false
set_option maxRecDepth 100000
set_option maxHeartbeats 2000000
set_option autoImplicit false
namespace DL
open PySem PySem.Spec PyProof.Rows L2
/-! ### enumerate, zip over lists and tuples -/
/-- a row of items: a tuple (true) or a list -/
def SqB (K : Fr_) (H : Hp) (t : Bool) (a : Addr) (xs : List V) : Prop := match t with
  | true => SqT K H a xs
  | false => SqL K H a xs
def SeqB (t : Bool) (h : Heap) (a : Addr) (its : Array Value) : Prop := match t with
  | true => h.IsTuple a its
  | false => h.IsList a its
def IterB (t : Bool) (h : Heap) (it a : Addr) (i : Nat) : Prop := match t with
  | true => h.IsTupleIter it a i
  | false => h.IsListIter it a i
def obB (t : Bool) (a : Addr) : Obj := match t with
  | true => { cls := .type "tuple_iterator", data := .fields #[.ref a, .int 0 0] }
  | false => { cls := .type "list_iterator", data := .fields #[.ref a, .int 0 0] }
theorem beginsB (t : Bool) (a : Addr) (its : Array Value) : Begins (.ref a) (obB t a) (fun h => SeqB t h a its) := match t with
  | true => begins_tuple a its
  | false => begins_list a its
theorem drawsB {prog : Program} {w : World} {A : Around} (hh : A.handled = none) (t : Bool) (it a : Addr) (hne : a ≠ it) (its : Array Value) : Draws prog w A it [it, a] its.size (fun i v => its[i]? = some v) (fun i h => IterB t h it a i ∧ SeqB t h a its) := match t with
  | true => Draws.tuple hh it a hne its
  | false => Draws.list hh it a hne its
theorem iterB_new {t : Bool} {h : Heap} {it a : Addr} (e : h.get? it = some (obB t a)) : IterB t h it a 0 := match t, e with
  | true, e => ⟨_, e, rfl, rfl⟩
  | false, e => ⟨_, e, rfl, rfl⟩
theorem iterB_obj {t : Bool} {h : Heap} {it a : Addr} {i : Nat} (e : IterB t h it a i) : ∃ o, h.get? it = some o ∧ ∀ v, o.data ≠ .cell v := match t, e with
  | true, ⟨o, h1, _, h3⟩ => ⟨o, h1, fun v z => by rw [h3] at z; cases z⟩
  | false, ⟨o, h1, _, h3⟩ => ⟨o, h1, fun v z => by rw [h3] at z; cases z⟩
theorem iterB_keep {t : Bool} {h h' : Heap} {it a : Addr} {i : Nat} (e : IterB t h it a i) (k : ∀ o, h.get? it = some o → h'.get? it = some o) : IterB t h' it a i := match t, e with
  | true, e => e.at k
  | false, e => e.at k
theorem inv_seqB {X : Cx} {pins : List (Addr × Obj)} {σ : St} {H : Hp} {s : Shared} {t : Bool} {a : Addr} {xs : List V} (I : Inv X pins σ H s) (h : SqB X.K H t a xs) : ∃ its : List Value, Vals xs its ∧ SeqB t s.heap a its.toArray ∧ xs.length ≤ sizeLine ∧ ∃ o, s.heap.get? a = some o := by
  cases t with
  | true =>
    obtain ⟨its, rv, p, hz⟩ := I.tuple h
    obtain ⟨o, e, r⟩ := id p
    exact ⟨its, rv, ⟨o, e, r⟩, hz, o, e⟩
  | false =>
    obtain ⟨its, rv, p, hz⟩ := I.list h
    obtain ⟨o, e, r⟩ := id p.isList
    exact ⟨its, rv, ⟨o, e, r⟩, hz, o, e⟩
theorem inv_seqB_inj {X : Cx} {pins : List (Addr × Obj)} {σ : St} {H : Hp} {s : Shared} {t : Bool} {a : Addr} {xs ys : List V} (I : Inv X pins σ H s) (h : SqB X.K H t a xs) (h' : SqB X.K H t a ys) : xs = ys := by
  cases t with
  | true => exact I.tuple_inj h h'
  | false => exact I.list_inj h h'
/-- an iterator that lays a new tuple at each turn -/
theorem turn_walk {P : Program} {w : World} {K : Fr_} {elts : List Expr} {kk : Nat} {tpos : Pos} {it : Addr} {fp wr : List Addr} (J : It) (tn : Nat → Heap → Prop) (mem : it ∈ fp) (sub : ∀ b ∈ wr, b ∈ fp) (obj : ∀ i h, tn i h → ∀ b ∈ fp, ∃ o, h.get? b = some o ∧ ∀ v, o.data ≠ .cell v)
    (keep : ∀ i h h', tn i h → (∀ b ∈ fp, ∀ o, h.get? b = some o → h'.get? b = some o) → tn i h')
    (W : ∀ (X : Cx), X.prog = P → X.w = w → X.K = K → X.calm = true → ∀ (i : Nat) (pins : List (Addr × Obj)) (s : Shared) (σ : St) (H : Hp), Inv X pins σ H s → J.go i H ∨ J.stop i H → tn i s.heap →
      ∃ (fpw : List Addr) (n : Nat) (Pt : Nat → Array Value → Prop) (Sw : Nat → Heap → Prop) (Mid : Nat → Addr → Heap → Prop), WalksT P w X.A it fpw wr n Pt Sw Mid ∧ Sw i s.heap ∧ (∀ j h, Sw j h → tn j h) ∧
        (J.go i H → i < n ∧ ∀ vals, Pt i vals → ∃ xs : List V, Vals xs vals.toList ∧ xs.length ≤ sizeLine ∧ ∀ T, H T = none → J.yld i H (.ref T) (upd H T (.tup xs))) ∧ (J.stop i H → i = n))
    (self : ∀ (A : Around) (i : Nat) (s : Shared) (Q : Value → Shared → Prop) (E : Value → Shared → Prop), tn i s.heap → Q (.ref it) s → wpAny (model P w) A (pyIter (.ref it)) Q E s) : Turn P w K (.Tuple elts kk tpos) J fp it tn where
  mem := mem
  obj := obj
  keep := keep
  self := self
  item := by
    intro X hP hw hK hc i pins s σ H E I hf st hg
    obtain ⟨fpw, n, Pt, Sw, Mid, WT, sw, toTn, go, _⟩ := W X hP hw hK hc i pins s σ H I (.inl hg) st
    obtain ⟨hin, hv⟩ := go hg
    subst hP hw
    refine WT.item i s _ _ hin sw fun T vals h' tk pt hT isT mid kp => ⟨_, rfl, ?_⟩
    refine WT.go elts kk tpos i T { s with heap := h', toks := tk } _ _ mid fun h'' sw'' kp'' => ?_
    obtain ⟨xs, rv, hz, yl⟩ := hv vals pt
    have hTn : H T = none := I.hok.fresh hT
    have apT : T ∉ wr := WT.apart _ _ _ mid
    have isT2 : h''.IsTuple T vals := isT.at fun o e => kp'' T o apT e
    have kk2 : ∀ b o, b ∉ wr → s.heap.get? b = some o → h''.get? b = some o := fun b o hb e => kp'' b o hb (kp b o hb e)
    have new : ObjOk X.prog X.w (upd H T (.tup xs)) h'' T (.tup xs) := by
      obtain ⟨o, e1, e2, n', e3⟩ := isT2
      exact ⟨hz, vals.toList, rv, ⟨o, e1, e2, n', by rw [e3]⟩⟩
    have I1 := I.turnedNew (t' := tk) kk2 (fun b hb => hf b (sub b hb)) hT new
    refine ⟨.ref T, _, I1, rfl, yl T hTn, toTn _ _ sw'', fun b hb => ?_⟩
    obtain ⟨o, e, _⟩ := obj i _ st b hb
    rw [upd_ne (Nat.ne_of_lt (Nat.lt_of_lt_of_le (Heap.lt_size e) hT))]
    exact (hf b hb).1
  done := by
    intro X hP hw hK hc i pins s σ H E I hf st hg
    obtain ⟨fpw, n, Pt, Sw, Mid, WT, sw, toTn, _, sp⟩ := W X hP hw hK hc i pins s σ H I (.inr hg) st
    have e := sp hg
    subst hP hw e
    exact WT.done s _ _ sw fun h' tk kp => ⟨rfl, I.turnedL (t' := tk) kp fun b hb => hf b (sub b hb)⟩
theorem vals_at {xs : List V} {its : List Value} {i : Nat} {x : V} {u : Value} (r : Vals xs its) (hx : xs[i]? = some x) (hu : its.toArray[i]? = some u) : RelV x u := by
  obtain ⟨u', e, q⟩ := r.get hx
  rw [List.getElem?_toArray] at hu
  rw [e] at hu
  cases hu
  exact q
/-! enumerate -/
def ItE (K : Fr_) (t : Bool) (a : Addr) : It :=
  ⟨fun i H => ∃ (xs : List V) (x : V), SqB K H t a xs ∧ xs[i]? = some x, fun i H v H' => ∃ T x, v = .ref T ∧ H T = none ∧ H' = upd H T (.tup [.int (i : Nat), x]) ∧ ∀ xs, SqB K H t a xs → xs[i]? = some x, fun i H => ∃ xs : List V, SqB K H t a xs ∧ i = xs.length⟩
theorem turn_en {P : Program} {w : World} {K : Fr_} {elts : List Expr} {kk : Nat} {tpos : Pos} (t : Bool) (a e it : Addr) (hai : a ≠ it) (hae : e ≠ a) (hei : e ≠ it) :
    Turn P w K (.Tuple elts kk tpos) (ItE K t a) [e, it] e (fun i h => (∃ old, IsEnum h e it ((i : Nat) : Int) old) ∧ IterB t h it a i) := by
  refine turn_walk (wr := [e, it]) _ _ List.mem_cons_self (fun b hb => hb) (fun i h ⟨⟨old, h1⟩, h2⟩ b hb => ?_) (fun i h h' ⟨⟨old, h1⟩, h2⟩ k => ⟨⟨old, k e (by simp) _ h1⟩, iterB_keep h2 fun o => k it (by simp) o⟩) (fun X hP hw hK hc i pins s σ H I gs st => ?_) fun A i s Q E ⟨⟨_, he⟩, _⟩ h => wpAny_pyIter_enum he h
  · have e' : b = e ∨ b = it := by simpa using hb
    rcases e' with z | z
    · rw [z]
      exact ⟨_, h1, fun v q => nomatch q⟩
    · rw [z]
      exact iterB_obj h2
  · subst hP hw hK
    have hx : ∃ xs, SqB X.K H t a xs := by
      rcases gs with ⟨xs, _, h, _⟩ | ⟨xs, h, _⟩
      · exact ⟨xs, h⟩
      · exact ⟨xs, h⟩
    obtain ⟨xs, hx⟩ := hx
    obtain ⟨its, rv, p, hz, _⟩ := inv_seqB I hx
    have hh : X.A.in1.handled = none := I.ok.hd hc
    have hef : e ∉ [it, a] := by
      simp only [List.mem_cons, List.not_mem_nil, or_false, not_or]
      exact ⟨hei, hae⟩
    refine ⟨_, _, _, _, _, WalksT.enumerateD (drawsB hh t it a hai its.toArray) e hei hef List.mem_cons_self, ⟨st.1, st.2, p⟩, fun j h ⟨h1, h2, h3⟩ => ⟨h1, h2⟩, fun ⟨ys, x, hy, hx'⟩ => ?_, fun ⟨ys, hy, hl⟩ => ?_⟩
    · have ey := inv_seqB_inj I hy hx
      subst ey
      refine ⟨?_, fun vals ⟨tk, u, hu, ev⟩ => ⟨[.int (i : Nat), x], ?_, by show 2 ≤ sizeLine; decide, fun T hT => ⟨T, x, rfl, hT, rfl, fun zs hz' => by rw [inv_seqB_inj I hz' hx]; exact hx'⟩⟩⟩
      · rw [List.size_toArray, ← rv.length]
        exact (List.getElem?_eq_some_iff.mp hx').1
      · rw [ev]
        exact .cons ⟨_, rfl⟩ (.cons (vals_at rv hx' hu) .nil)
    · rw [inv_seqB_inj I hy hx] at hl
      rw [hl, List.size_toArray, rv.length]
set_option maxHeartbeats 4000000 in
theorem meets_enum1 {v : Value} {o : Obj} {H : Heap → Prop} (B : Begins v o H) :
    Meets (Builtin.«enumerate.__new__» ⟨[.type "enumerate", v], []⟩) (fun _ R s => H s.heap ∧ R (.ok (.ret (.ref (s.heap.push o).objs.size))) { s with heap := (s.heap.push o).push { cls := .type "enumerate", data := .fields #[.none, .bool false, .ref s.heap.objs.size, rawInt 0, .none, .none] } }) :=
  .of_wp fun prog w A R s h => by
    obtain ⟨hp, g, d, tk, os⟩ := s
    obtain ⟨h1, h⟩ := h
    have hsub := sub_enumerate
    have q1 : ∀ {A' : Around} {E : Value → Shared → Prop} {Q : Value → Shared → Prop}, Q (.ref hp.objs.size) ⟨hp.push o, g, d, tk, os⟩ → wpAny (model prog w) A' (pyIter v) Q E ⟨hp, g, d, tk, os⟩ := fun q => B.iter prog w _ _ ⟨hp, g, d, tk, os⟩ _ h1 q
    wp_walk using q1
    refine wpAny_stack_any fun st => wpAny_pure ?_
    split
    · rename_i c _ _ _ _ _
      cases (c == Value.type "enumerate")
      · wp_walk using q1
        exact ⟨_, rfl, h⟩
      · wp_walk using q1
        exact ⟨_, rfl, h⟩
    · wp_walk using q1
      exact ⟨_, rfl, h⟩
theorem call_enum1 {prog : Program} {w : World} {A : Around} {E : Value → Shared → Prop} {s : Shared} {v : Value} {o : Obj} {H : Heap → Prop} {Q : Value → Shared → Prop} (B : Begins v o H) (h1 : H s.heap)
    (h : ∀ h', IsEnum h' (s.heap.objs.size + 1) s.heap.objs.size 0 .none → h'.get? s.heap.objs.size = some o → (∀ b o, s.heap.get? b = some o → h'.get? b = some o) → Q (.ref (s.heap.objs.size + 1)) { s with heap := h' }) :
    wpAny (model prog w) A (call (.type "enumerate") [v]) Q E s := by
  refine callType_new F.called_enumerate (by decide) (F.typeCall_enumerate_1 _) (F.newCall_enumerate_1 _) (fun obj => F.args_object_init_2 obj _) F.entry_enumerate_new (meets_enum1 B) ⟨h1, ?_⟩
  have hz : (s.heap.push o).objs.size = s.heap.objs.size + 1 := Heap.size_push ..
  have g1 := Heap.get?_push_size (s.heap.push o) (o := ({ cls := .type "enumerate", data := .fields #[.none, .bool false, .ref s.heap.objs.size, rawInt 0, .none, .none] } : Obj)) rfl
  show _ ∧ _
  rw [hz] at g1 ⊢
  exact ⟨⟨_, g1, rfl⟩, h _ g1 (Heap.get?_push_of_some _ (Heap.get?_push_size _ B.free)) fun b u x => Heap.get?_push_of_some _ (Heap.get?_push_of_some _ x)⟩
/-- (i, item), .. -/
def enumD : D → Option (List D) := fun d => (iterD d).map fun ds => ds.zipIdx.map fun p => .tuple [.int (p.2 : Nat), p.1]
theorem itd_en {tg : Expr} (htg : isTupG tg) {K : Fr_} {t : Bool} {a : Addr} {xs : List V} {ds : List D} : ItD tg K (ItE K t a) (ds.zipIdx.map fun p => .tuple [.int (p.2 : Nat), p.1]) (fun H => (match t with | true => SqT K H a xs | false => Fz K H a xs) ∧ RpA K H xs ds) where
  goes := fun i H hi ⟨h, r⟩ => by
    rw [List.length_map, List.length_zipIdx, ← r.length] at hi
    exact ⟨xs, xs[i], (match t, h with | true, h => h | false, h => h.sq), List.getElem?_eq_getElem hi⟩
  stops := fun H ⟨h, r⟩ => ⟨xs, (match t, h with | true, h => h | false, h => h.sq), by rw [List.length_map, List.length_zipIdx, r.length]⟩
  yields := fun i H x H' d hd ⟨h, r⟩ ⟨T, y, e1, hT, e2, q⟩ => by
    subst e1 e2
    rw [List.getElem?_map, List.getElem?_zipIdx] at hd
    obtain ⟨⟨d', n⟩, hd1, rfl⟩ := Option.map_eq_some_iff.mp hd
    obtain ⟨d'', hd2, e3⟩ := Option.map_eq_some_iff.mp hd1
    cases e3
    obtain ⟨v, h1, h2⟩ := r.get hd2
    have := q xs (match t, h with | true, h => h | false, h => h.sq)
    rw [h1] at this
    cases this
    have s := Same.new (o := (.tup [.int (i : Nat), y])) hT
    refine ⟨s, .tw htg (SqT.of upd_same) (.cons ?_ (.cons (h2.mono (.of_same s)) .nil))⟩
    rw [Nat.zero_add]
    exact .int _
  stays := fun H H' ⟨h, r⟩ m => ⟨(match t, h with | true, h => m.sqT h | false, h => m.fz h), r.mono m⟩
section
variable {X : Cx} {c : FC} {elts : List Expr} {kk : Nat} {tpos : Pos}
theorem pi_en {e : Expr} {ta : TA} {p pos : Pos} (hg : Gl X "enumerate") (hm : X.mg "enumerate" = none) (ha : PA X [e] ta) (hs : starEach [e] X.env = [(false, eval e X.env)] := by rfl) :
    PI X (.Tuple elts kk tpos) (.Call (.Name "enumerate" p) [e] [] pos) (fun σ H R => ta σ H fun vs H1 => ∃ t a xs, vs = [.ref a] ∧ SqB X.K H1 t a xs ∧ R (ItE X.K t a) H1) := by
  refine ⟨fun pins s σ H R I h => ?_⟩
  refine Call_ (ld_blt I hg hm boot_enumerate (PyProof.Rows.callWith_type1 (thn (ha.run pos pins s σ H _ I h) fun us s1 ⟨vs, H1, I1, r1, q1⟩ => ?_) hs rfl))
  obtain ⟨t, a, xs, rfl, hq, q⟩ := q1
  obtain ⟨u, rfl, ru⟩ := vals1 r1
  cases ru
  obtain ⟨its, rv, p', hz, o, ho⟩ := inv_seqB I1 hq
  have hlt : a < s1.heap.objs.size := Heap.lt_size ho
  refine call_enum1 (beginsB t a its.toArray) p' fun h' he hit hk => wpAny_pyIter_enum he ?_
  have I2 : Inv X pins σ H1 { s1 with heap := h' } := I1.kept (t' := s1.toks) hk
  refine ⟨s1.heap.objs.size + 1, [s1.heap.objs.size + 1, s1.heap.objs.size], _, _, H1, rfl, I2, turn_en t a _ _ (Nat.ne_of_lt hlt) (Nat.ne_of_gt (Nat.lt_succ_of_lt hlt)) (Nat.succ_ne_self _), ⟨⟨.none, he⟩, iterB_new hit⟩, fun b hb => ?_, q⟩
  have hle : s1.heap.objs.size ≤ b := by
    rcases List.mem_cons.mp hb with z | z
    · rw [z]
      exact Nat.le_succ _
    · rw [List.mem_singleton.mp z]
      exact Nat.le_refl _
  exact I1.fpOk hle (I1.hok.fresh hle)
theorem en_go {tg : Expr} (htg : isTupG tg) {H1 : Hp} {R : It → Hp → Prop} {v : V} {x : D} {ds : List D} (r1 : Rp X.K H1 v x) (e2 : enumD x = some ds) (k : ∀ J Gd, ItD tg X.K J ds Gd → Gd H1 → R J H1) : ∃ t a xs, [v] = [V.ref a] ∧ SqB X.K H1 t a xs ∧ R (ItE X.K t a) H1 := by
  obtain ⟨ds', e3, rfl⟩ := Option.map_eq_some_iff.mp e2
  cases r1 with
  | lst h r =>
    cases e3
    exact ⟨false, _, _, rfl, h.sq, k _ _ (itd_en htg (t := false)) ⟨h, r⟩⟩
  | tup h r =>
    cases e3
    exact ⟨true, _, _, rfl, h.sq, k _ _ (itd_en htg (t := true)) ⟨h.sq, r⟩⟩
  | _ => cases e3
theorem di_enum {Γ : Env_} {e : Expr} {m : Option D} {p pos : Pos} (hm : X.mg "enumerate" = none) (h : DE X c Γ e m) (hg : Gl X "enumerate" := by rfl) (hs : starEach [e] X.env = [(false, eval e X.env)] := by rfl) : DI X c Γ (.Tuple elts kk tpos) (.Call (.Name "enumerate" p) [e] [] pos) (m.bind enumD) := fun ds hd σ H R E k => by
  obtain ⟨x, e1, e2⟩ := Option.bind_eq_some_iff.mp hd
  refine sI_of (pi_en hg hm (pa_s ⟨hs, trivial⟩) hs) (h x e1 σ H _ E fun v H1 s1 r1 => ?_)
  exact en_go (tg := .Tuple elts kk tpos) trivial r1 e2 fun J Gd i g => k J H1 Gd s1 i g
theorem dxi_enum {T : Type} {G : T → Env_} {e : Expr} {m : T → Option (D × T)} {p pos : Pos} (hm : X.mg "enumerate" = none) (h : DX X c G e m) (hg : Gl X "enumerate" := by rfl) (hs : starEach [e] X.env = [(false, eval e X.env)] := by rfl) : DXI X c G (.Tuple elts kk tpos) (.Call (.Name "enumerate" p) [e] [] pos) (bindX m enumD) := fun t ds t' hd σ H R E k => by
  obtain ⟨x, e1, e2⟩ := bindX_eq hd
  refine sI_of (pi_en hg hm (pa_s ⟨hs, trivial⟩) hs) (h t x t' e1 σ H _ E fun v H1 E1 s1 r1 => ?_)
  exact en_go (tg := .Tuple elts kk tpos) trivial r1 e2 fun J Gd i g => k J H1 Gd E1 s1 i g
end
end DL

set_option Elab.async false
set_option linter.all false
set_option maxRecDepth 100000
set_option maxHeartbeats 2000000
set_option autoImplicit false
namespace DL
open PySem PySem.Spec PyProof.Rows L2
/-! ### zip of two, of three -/
def ItZ2 (K : Fr_) (t1 : Bool) (a : Addr) (t2 : Bool) (b : Addr) : It :=
  ⟨fun i H => ∃ (xs ys : List V), SqB K H t1 a xs ∧ SqB K H t2 b ys ∧ i < xs.length ∧ i < ys.length, fun i H v H' => ∃ T x y, v = .ref T ∧ H T = none ∧ H' = upd H T (.tup [x, y]) ∧ (∀ xs, SqB K H t1 a xs → xs[i]? = some x) ∧ ∀ ys, SqB K H t2 b ys → ys[i]? = some y,
    fun i H => ∃ xs ys : List V, SqB K H t1 a xs ∧ SqB K H t2 b ys ∧ i = min xs.length ys.length⟩
def ItZ3 (K : Fr_) (t1 : Bool) (a : Addr) (t2 : Bool) (b : Addr) (t3 : Bool) (c : Addr) : It :=
  ⟨fun i H => ∃ (xs ys zs : List V), SqB K H t1 a xs ∧ SqB K H t2 b ys ∧ SqB K H t3 c zs ∧ i < xs.length ∧ i < ys.length ∧ i < zs.length, fun i H v H' => ∃ T x y z, v = .ref T ∧ H T = none ∧ H' = upd H T (.tup [x, y, z]) ∧ (∀ xs, SqB K H t1 a xs → xs[i]? = some x) ∧ (∀ ys, SqB K H t2 b ys → ys[i]? = some y) ∧ ∀ zs, SqB K H t3 c zs → zs[i]? = some z,
    fun i H => ∃ xs ys zs : List V, SqB K H t1 a xs ∧ SqB K H t2 b ys ∧ SqB K H t3 c zs ∧ i = min (min xs.length ys.length) zs.length⟩
theorem zipTup_obj {h : Heap} {T : Addr} {vs : Array Value} (e : h.get? T = some { cls := .type "tuple", data := .seq vs }) : ∃ o, h.get? T = some o ∧ ∀ v, o.data ≠ .cell v := ⟨_, e, fun v q => nomatch q⟩
theorem turn_z2 {P : Program} {w : World} {K : Fr_} {elts : List Expr} {kk : Nat} {tpos : Pos} {t1 t2 : Bool} {a b z TI TO i1 i2 : Addr} (S : ZipSep2 z TI TO i1 i2 [i1, a] [i2, b]) (ha : a ≠ i1) (hb : b ≠ i2) :
    Turn P w K (.Tuple elts kk tpos) (ItZ2 K t1 a t2 b) [z, TI, TO, i1, i2] z (fun i h => IsZip h z TI TO .none ∧ IsTupOf2 h TI (.ref i1) (.ref i2) ∧ (∃ x y, IsTupOf2 h TO x y) ∧ IterB t1 h i1 a i ∧ IterB t2 h i2 b i) := by
  refine turn_walk (wr := [z, TO, i1, i2]) _ _ List.mem_cons_self (fun b hb => by simp at hb ⊢; rcases hb with q | q | q | q <;> simp [q]) (fun i h ⟨h1, h2, ⟨x, y, h3⟩, h4, h5⟩ c hc => ?_) (fun i h h' ⟨h1, h2, ⟨x, y, h3⟩, h4, h5⟩ k => ⟨k z (by simp) _ h1, k TI (by simp) _ h2, ⟨x, y, k TO (by simp) _ h3⟩, iterB_keep h4 fun o => k i1 (by simp) o, iterB_keep h5 fun o => k i2 (by simp) o⟩)
    (fun X hP hw hK hc i pins s σ H I gs st => ?_) fun A i s Q E st h => wpAny_pyIter_zip st.1 h
  · have e' : c = z ∨ c = TI ∨ c = TO ∨ c = i1 ∨ c = i2 := by simpa using hc
    rcases e' with q | q | q | q | q
    · rw [q]
      exact ⟨_, h1, fun v q => nomatch q⟩
    · rw [q]
      exact zipTup_obj h2
    · rw [q]
      exact zipTup_obj h3
    · rw [q]
      exact iterB_obj h4
    · rw [q]
      exact iterB_obj h5
  · subst hP hw hK
    have hx : ∃ xs ys, SqB X.K H t1 a xs ∧ SqB X.K H t2 b ys := by
      rcases gs with ⟨xs, ys, h1, h2, _⟩ | ⟨xs, ys, h1, h2, _⟩
      · exact ⟨xs, ys, h1, h2⟩
      · exact ⟨xs, ys, h1, h2⟩
    obtain ⟨xs, ys, hx, hy⟩ := hx
    obtain ⟨its, rv, p, _, _⟩ := inv_seqB I hx
    obtain ⟨its2, rv2, p2, _, _⟩ := inv_seqB I hy
    have hh : X.A.in1.handled = none := I.ok.hd hc
    obtain ⟨g1, g2, g3, g4, g5⟩ := st
    refine ⟨_, _, _, _, _, WalksT.zipD2 S (drawsB hh t1 i1 a ha its.toArray) (drawsB hh t2 i2 b hb its2.toArray), ⟨g1, g2, g3, ⟨g4, p⟩, ⟨g5, p2⟩⟩, fun j h ⟨q1, q2, q3, q4, q5⟩ => ⟨q1, q2, q3, q4.1, q5.1⟩, fun ⟨us, vs, h1, h2, l1, l2⟩ => ?_, fun ⟨us, vs, h1, h2, hl⟩ => ?_⟩
    · have e1 := inv_seqB_inj I h1 hx
      have e2 := inv_seqB_inj I h2 hy
      subst e1 e2
      refine ⟨?_, fun vals ⟨u1, u2, q1, q2, ev⟩ => ⟨[us[i], vs[i]], ?_, by show 2 ≤ sizeLine; decide, fun T hT => ⟨T, us[i], vs[i], rfl, hT, rfl, fun ws hw => by rw [inv_seqB_inj I hw h1]; exact List.getElem?_eq_getElem l1, fun ws hw => by rw [inv_seqB_inj I hw h2]; exact List.getElem?_eq_getElem l2⟩⟩⟩
      · rw [List.size_toArray, List.size_toArray, ← rv.length, ← rv2.length]
        omega
      · rw [ev]
        exact .cons (vals_at rv (List.getElem?_eq_getElem l1) q1) (.cons (vals_at rv2 (List.getElem?_eq_getElem l2) q2) .nil)
    · rw [inv_seqB_inj I h1 hx, inv_seqB_inj I h2 hy] at hl
      rw [hl, List.size_toArray, List.size_toArray, rv.length, rv2.length]
theorem turn_z3 {P : Program} {w : World} {K : Fr_} {elts : List Expr} {kk : Nat} {tpos : Pos} {t1 t2 t3 : Bool} {a b c z TI TO i1 i2 i3 : Addr} (S : ZipSep3 z TI TO i1 i2 i3 [i1, a] [i2, b] [i3, c]) (ha : a ≠ i1) (hb : b ≠ i2) (hcc : c ≠ i3) :
    Turn P w K (.Tuple elts kk tpos) (ItZ3 K t1 a t2 b t3 c) [z, TI, TO, i1, i2, i3] z (fun i h => IsZip h z TI TO .none ∧ IsTupOf3 h TI (.ref i1) (.ref i2) (.ref i3) ∧ (∃ x y u, IsTupOf3 h TO x y u) ∧ IterB t1 h i1 a i ∧ IterB t2 h i2 b i ∧ IterB t3 h i3 c i) := by
  refine turn_walk (wr := [z, TO, i1, i2, i3]) _ _ List.mem_cons_self (fun b hb => by simp at hb ⊢; rcases hb with q | q | q | q | q <;> simp [q]) (fun i h ⟨h1, h2, ⟨x, y, u, h3⟩, h4, h5, h6⟩ d hd => ?_) (fun i h h' ⟨h1, h2, ⟨x, y, u, h3⟩, h4, h5, h6⟩ k => ⟨k z (by simp) _ h1, k TI (by simp) _ h2, ⟨x, y, u, k TO (by simp) _ h3⟩, iterB_keep h4 fun o => k i1 (by simp) o, iterB_keep h5 fun o => k i2 (by simp) o, iterB_keep h6 fun o => k i3 (by simp) o⟩)
    (fun X hP hw hK hc i pins s σ H I gs st => ?_) fun A i s Q E st h => wpAny_pyIter_zip st.1 h
  · have e' : d = z ∨ d = TI ∨ d = TO ∨ d = i1 ∨ d = i2 ∨ d = i3 := by simpa using hd
    rcases e' with q | q | q | q | q | q
    · rw [q]
      exact ⟨_, h1, fun v q => nomatch q⟩
    · rw [q]
      exact zipTup_obj h2
    · rw [q]
      exact zipTup_obj h3
    · rw [q]
      exact iterB_obj h4
    · rw [q]
      exact iterB_obj h5
    · rw [q]
      exact iterB_obj h6
  · subst hP hw hK
    have hx : ∃ xs ys zs, SqB X.K H t1 a xs ∧ SqB X.K H t2 b ys ∧ SqB X.K H t3 c zs := by
      rcases gs with ⟨xs, ys, zs, h1, h2, h3, _⟩ | ⟨xs, ys, zs, h1, h2, h3, _⟩
      · exact ⟨xs, ys, zs, h1, h2, h3⟩
      · exact ⟨xs, ys, zs, h1, h2, h3⟩
    obtain ⟨xs, ys, zs, hx, hy, hz⟩ := hx
    obtain ⟨its, rv, p, _, _⟩ := inv_seqB I hx
    obtain ⟨its2, rv2, p2, _, _⟩ := inv_seqB I hy
    obtain ⟨its3, rv3, p3, _, _⟩ := inv_seqB I hz
    have hh : X.A.in1.handled = none := I.ok.hd hc
    obtain ⟨g1, g2, g3, g4, g5, g6⟩ := st
    refine ⟨_, _, _, _, _, WalksT.zipD3 S (drawsB hh t1 i1 a ha its.toArray) (drawsB hh t2 i2 b hb its2.toArray) (drawsB hh t3 i3 c hcc its3.toArray), ⟨g1, g2, g3, ⟨g4, p⟩, ⟨g5, p2⟩, ⟨g6, p3⟩⟩, fun j h ⟨q1, q2, q3, q4, q5, q6⟩ => ⟨q1, q2, q3, q4.1, q5.1, q6.1⟩, fun ⟨us, vs, ws, h1, h2, h3, l1, l2, l3⟩ => ?_, fun ⟨us, vs, ws, h1, h2, h3, hl⟩ => ?_⟩
    · have e1 := inv_seqB_inj I h1 hx
      have e2 := inv_seqB_inj I h2 hy
      have e3 := inv_seqB_inj I h3 hz
      subst e1 e2 e3
      refine ⟨?_, fun vals ⟨u1, u2, u3, q1, q2, q3, ev⟩ => ⟨[us[i], vs[i], ws[i]], ?_, by show 3 ≤ sizeLine; decide, fun T hT => ⟨T, us[i], vs[i], ws[i], rfl, hT, rfl, fun qs hw => by rw [inv_seqB_inj I hw h1]; exact List.getElem?_eq_getElem l1, fun qs hw => by rw [inv_seqB_inj I hw h2]; exact List.getElem?_eq_getElem l2, fun qs hw => by rw [inv_seqB_inj I hw h3]; exact List.getElem?_eq_getElem l3⟩⟩⟩
      · rw [List.size_toArray, List.size_toArray, List.size_toArray, ← rv.length, ← rv2.length, ← rv3.length]
        omega
      · rw [ev]
        exact .cons (vals_at rv (List.getElem?_eq_getElem l1) q1) (.cons (vals_at rv2 (List.getElem?_eq_getElem l2) q2) (.cons (vals_at rv3 (List.getElem?_eq_getElem l3) q3) .nil))
    · rw [inv_seqB_inj I h1 hx, inv_seqB_inj I h2 hy, inv_seqB_inj I h3 hz] at hl
      rw [hl, List.size_toArray, List.size_toArray, List.size_toArray, rv.length, rv2.length, rv3.length]
/-- a row that stands still -/
def FzB (K : Fr_) (H : Hp) (t : Bool) (a : Addr) (xs : List V) : Prop := match t with
  | true => SqT K H a xs
  | false => Fz K H a xs
theorem FzB.sq {K : Fr_} {H : Hp} {t : Bool} {a : Addr} {xs : List V} (h : FzB K H t a xs) : SqB K H t a xs := match t, h with
  | true, h => h
  | false, h => Fz.sq (show Fz K H a xs from h)
theorem FzB.mono {K : Fr_} {H H' : Hp} (m : Mono H H') {t : Bool} {a : Addr} {xs : List V} (h : FzB K H t a xs) : FzB K H' t a xs := match t, h with
  | true, h => m.sqT h
  | false, h => m.fz h
theorem Rp.row {K : Fr_} {H : Hp} {v : V} {d : D} {ds : List D} (r : Rp K H v d) (e : iterD d = some ds) : ∃ t a xs, v = .ref a ∧ FzB K H t a xs ∧ RpA K H xs ds := by
  cases r with
  | lst h r =>
    cases e
    exact ⟨false, _, _, rfl, h, r⟩
  | tup h r =>
    cases e
    exact ⟨true, _, _, rfl, h.sq, r⟩
  | _ => cases e
def zip2L (xs ys : List D) : List D := (xs.zip ys).map fun p => .tuple [p.1, p.2]
def zip3L (xs ys zs : List D) : List D := (xs.zip (ys.zip zs)).map fun p => .tuple [p.1, p.2.1, p.2.2]
def dZip2 : List D → Option (List D)
  | [x, y] => (iterD x).bind fun xs => (iterD y).map fun ys => zip2L xs ys
  | _ => none
def dZip3 : List D → Option (List D)
  | [x, y, z] => (iterD x).bind fun xs => (iterD y).bind fun ys => (iterD z).map fun zs => zip3L xs ys zs
  | _ => none
theorem itd_z2 {tg : Expr} (htg : isTupG tg) {K : Fr_} {t1 t2 : Bool} {a b : Addr} {xs ys : List V} {ds es : List D} : ItD tg K (ItZ2 K t1 a t2 b) (zip2L ds es) (fun H => (FzB K H t1 a xs ∧ RpA K H xs ds) ∧ FzB K H t2 b ys ∧ RpA K H ys es) where
  goes := fun i H hi ⟨⟨h1, r1⟩, h2, r2⟩ => by
    unfold zip2L at hi
    rw [List.length_map, List.length_zip, ← r1.length, ← r2.length] at hi
    exact ⟨xs, ys, h1.sq, h2.sq, by omega, by omega⟩
  stops := fun H ⟨⟨h1, r1⟩, h2, r2⟩ => ⟨xs, ys, h1.sq, h2.sq, by unfold zip2L; rw [List.length_map, List.length_zip, r1.length, r2.length]⟩
  yields := fun i H x H' d hd ⟨⟨h1, r1⟩, h2, r2⟩ ⟨T, u, v, e1, hT, e2, q1, q2⟩ => by
    subst e1 e2
    unfold zip2L at hd
    rw [List.getElem?_map] at hd
    obtain ⟨⟨d1, d2⟩, hd1, rfl⟩ := Option.map_eq_some_iff.mp hd
    rw [List.getElem?_zip_eq_some] at hd1
    obtain ⟨w1, g1, p1⟩ := r1.get hd1.1
    obtain ⟨w2, g2, p2⟩ := r2.get hd1.2
    have e1 := q1 xs h1.sq
    have e2 := q2 ys h2.sq
    rw [g1] at e1
    rw [g2] at e2
    cases e1
    cases e2
    have s := Same.new (o := (.tup [u, v])) hT
    exact ⟨s, .tw htg (SqT.of upd_same) (.cons (p1.mono (.of_same s)) (.cons (p2.mono (.of_same s)) .nil))⟩
  stays := fun H H' ⟨⟨h1, r1⟩, h2, r2⟩ m => ⟨⟨h1.mono m, r1.mono m⟩, h2.mono m, r2.mono m⟩
theorem itd_z3 {tg : Expr} (htg : isTupG tg) {K : Fr_} {t1 t2 t3 : Bool} {a b c : Addr} {xs ys zs : List V} {ds es fs : List D} : ItD tg K (ItZ3 K t1 a t2 b t3 c) (zip3L ds es fs) (fun H => (FzB K H t1 a xs ∧ RpA K H xs ds) ∧ (FzB K H t2 b ys ∧ RpA K H ys es) ∧ FzB K H t3 c zs ∧ RpA K H zs fs) where
  goes := fun i H hi ⟨⟨h1, r1⟩, ⟨h2, r2⟩, h3, r3⟩ => by
    unfold zip3L at hi
    rw [List.length_map, List.length_zip, List.length_zip, ← r1.length, ← r2.length, ← r3.length] at hi
    exact ⟨xs, ys, zs, h1.sq, h2.sq, h3.sq, by omega, by omega, by omega⟩
  stops := fun H ⟨⟨h1, r1⟩, ⟨h2, r2⟩, h3, r3⟩ => ⟨xs, ys, zs, h1.sq, h2.sq, h3.sq, by
    unfold zip3L
    rw [List.length_map, List.length_zip, List.length_zip, r1.length, r2.length, r3.length]
    omega⟩
  yields := fun i H x H' d hd ⟨⟨h1, r1⟩, ⟨h2, r2⟩, h3, r3⟩ ⟨T, u, v, q, e1, hT, e2, q1, q2, q3⟩ => by
    subst e1 e2
    unfold zip3L at hd
    rw [List.getElem?_map] at hd
    obtain ⟨⟨d1, d2, d3⟩, hd1, rfl⟩ := Option.map_eq_some_iff.mp hd
    rw [List.getElem?_zip_eq_some] at hd1
    obtain ⟨hd2, hd3⟩ := hd1
    rw [List.getElem?_zip_eq_some] at hd3
    obtain ⟨w1, g1, p1⟩ := r1.get hd2
    obtain ⟨w2, g2, p2⟩ := r2.get hd3.1
    obtain ⟨w3, g3, p3⟩ := r3.get hd3.2
    have e1 := q1 xs h1.sq
    have e2 := q2 ys h2.sq
    have e3 := q3 zs h3.sq
    rw [g1] at e1
    rw [g2] at e2
    rw [g3] at e3
    cases e1
    cases e2
    cases e3
    have s := Same.new (o := (.tup [u, v, q])) hT
    exact ⟨s, .tw htg (SqT.of upd_same) (.cons (p1.mono (.of_same s)) (.cons (p2.mono (.of_same s)) (.cons (p3.mono (.of_same s)) .nil)))⟩
  stays := fun H H' ⟨⟨h1, r1⟩, ⟨h2, r2⟩, h3, r3⟩ m => ⟨⟨h1.mono m, r1.mono m⟩, ⟨h2.mono m, r2.mono m⟩, h3.mono m, r3.mono m⟩
section
variable {X : Cx} {c : FC} {elts : List Expr} {kk : Nat} {tpos : Pos}
theorem pi_z2 {e e2 : Expr} {ta : TA} {p pos : Pos} (hg : Gl X "zip") (hm : X.mg "zip" = none) (ha : PA X [e, e2] ta) (hs : starEach [e, e2] X.env = (false, eval e X.env) :: starEach [e2] X.env := by rfl) (hpl : (backTo pos (starEach [e2] X.env)).any (·.1) = false := by rfl) :
    PI X (.Tuple elts kk tpos) (.Call (.Name "zip" p) [e, e2] [] pos) (fun σ H R => ta σ H fun vs H1 => ∃ t1 t2 a b xs ys, vs = [.ref a, .ref b] ∧ SqB X.K H1 t1 a xs ∧ SqB X.K H1 t2 b ys ∧ R (ItZ2 X.K t1 a t2 b) H1) := by
  refine ⟨fun pins s σ H R I h => ?_⟩
  refine Call_ (ld_blt I hg hm PyProof.Rows.boot_zip (PyProof.Rows.callWith_type1 (thn (ha.run pos pins s σ H _ I h) fun us s1 ⟨vs, H1, I1, r1, q1⟩ => ?_) hs hpl))
  obtain ⟨t1, t2, a, b, xs, ys, rfl, hq1, hq2, q⟩ := q1
  obtain ⟨u1, u2, rfl, ru1, ru2⟩ := vals2 r1
  cases ru1
  cases ru2
  obtain ⟨its, rv, p1, _, o1, ho1⟩ := inv_seqB I1 hq1
  obtain ⟨its2, rv2, p2, _, o2, ho2⟩ := inv_seqB I1 hq2
  have l1 : a < s1.heap.objs.size := Heap.lt_size ho1
  have l2 : b < s1.heap.objs.size := Heap.lt_size ho2
  refine zip_begins2 (beginsB t1 a its.toArray) (beginsB t2 b its2.toArray) p1 p2 fun h' hz hTI hTO g1 g2 hsz hk => wpAny_pyIter_zip hz ?_
  have I2 : Inv X pins σ H1 { s1 with heap := h' } := I1.kept (t' := s1.toks) hk
  have S := zip_sep2 (N := s1.heap.objs.size) (fp1 := [a]) (fp2 := [b]) (fun x hx => by rw [List.mem_singleton.mp hx]; exact l1) (fun x hx => by rw [List.mem_singleton.mp hx]; exact l2)
  refine ⟨s1.heap.objs.size + 4, [s1.heap.objs.size + 4, s1.heap.objs.size + 2, s1.heap.objs.size + 3, s1.heap.objs.size, s1.heap.objs.size + 1], _, _, H1, rfl, I2, turn_z2 S (Nat.ne_of_lt l1) (Nat.ne_of_lt (Nat.lt_succ_of_lt l2)), ⟨hz, hTI, ⟨_, _, hTO⟩, iterB_new g1, iterB_new g2⟩, fun x hx => ?_, q⟩
  have hle : s1.heap.objs.size ≤ x := by
    have e' : x = s1.heap.objs.size + 4 ∨ x = s1.heap.objs.size + 2 ∨ x = s1.heap.objs.size + 3 ∨ x = s1.heap.objs.size ∨ x = s1.heap.objs.size + 1 := by simpa using hx
    rcases e' with z | z | z | z | z <;> (rw [z]; first | exact Nat.le_refl _ | exact Nat.le_add_right _ _)
  exact I1.fpOk hle (I1.hok.fresh hle)
theorem pi_z3 {e e2 e3 : Expr} {ta : TA} {p pos : Pos} (hg : Gl X "zip") (hm : X.mg "zip" = none) (ha : PA X [e, e2, e3] ta) (hs : starEach [e, e2, e3] X.env = (false, eval e X.env) :: starEach [e2, e3] X.env := by rfl) (hpl : (backTo pos (starEach [e2, e3] X.env)).any (·.1) = false := by rfl) :
    PI X (.Tuple elts kk tpos) (.Call (.Name "zip" p) [e, e2, e3] [] pos) (fun σ H R => ta σ H fun vs H1 => ∃ t1 t2 t3 a b d xs ys zs, vs = [.ref a, .ref b, .ref d] ∧ SqB X.K H1 t1 a xs ∧ SqB X.K H1 t2 b ys ∧ SqB X.K H1 t3 d zs ∧ R (ItZ3 X.K t1 a t2 b t3 d) H1) := by
  refine ⟨fun pins s σ H R I h => ?_⟩
  refine Call_ (ld_blt I hg hm PyProof.Rows.boot_zip (PyProof.Rows.callWith_type1 (thn (ha.run pos pins s σ H _ I h) fun us s1 ⟨vs, H1, I1, r1, q1⟩ => ?_) hs hpl))
  obtain ⟨t1, t2, t3, a, b, d, xs, ys, zs, rfl, hq1, hq2, hq3, q⟩ := q1
  obtain ⟨u1, u2, u3, rfl, ru1, ru2, ru3⟩ : ∃ u1 u2 u3, us = [u1, u2, u3] ∧ RelV (.ref a) u1 ∧ RelV (.ref b) u2 ∧ RelV (.ref d) u3 := by
    cases r1 with
    | cons p q =>
      obtain ⟨w1, w2, e, r2, r3⟩ := vals2 q
      exact ⟨_, w1, w2, by rw [e], p, r2, r3⟩
  cases ru1
  cases ru2
  cases ru3
  obtain ⟨its, rv, p1, _, o1, ho1⟩ := inv_seqB I1 hq1
  obtain ⟨its2, rv2, p2, _, o2, ho2⟩ := inv_seqB I1 hq2
  obtain ⟨its3, rv3, p3, _, o3, ho3⟩ := inv_seqB I1 hq3
  have l1 : a < s1.heap.objs.size := Heap.lt_size ho1
  have l2 : b < s1.heap.objs.size := Heap.lt_size ho2
  have l3 : d < s1.heap.objs.size := Heap.lt_size ho3
  refine zip_begins3 (beginsB t1 a its.toArray) (beginsB t2 b its2.toArray) (beginsB t3 d its3.toArray) p1 p2 p3 fun h' hz hTI hTO g1 g2 g3 hsz hk => wpAny_pyIter_zip hz ?_
  have I2 : Inv X pins σ H1 { s1 with heap := h' } := I1.kept (t' := s1.toks) hk
  have S := zip_sep3 (N := s1.heap.objs.size) (fp1 := [a]) (fp2 := [b]) (fp3 := [d]) (fun x hx => by rw [List.mem_singleton.mp hx]; exact l1) (fun x hx => by rw [List.mem_singleton.mp hx]; exact l2) (fun x hx => by rw [List.mem_singleton.mp hx]; exact l3)
  refine ⟨s1.heap.objs.size + 5, [s1.heap.objs.size + 5, s1.heap.objs.size + 3, s1.heap.objs.size + 4, s1.heap.objs.size, s1.heap.objs.size + 1, s1.heap.objs.size + 2], _, _, H1, rfl, I2, turn_z3 S (Nat.ne_of_lt l1) (Nat.ne_of_lt (Nat.lt_succ_of_lt l2)) (Nat.ne_of_lt (Nat.lt_succ_of_lt (Nat.lt_succ_of_lt l3))), ⟨hz, hTI, ⟨_, _, _, hTO⟩, iterB_new g1, iterB_new g2, iterB_new g3⟩, fun x hx => ?_, q⟩
  have hle : s1.heap.objs.size ≤ x := by
    have e' : x = s1.heap.objs.size + 5 ∨ x = s1.heap.objs.size + 3 ∨ x = s1.heap.objs.size + 4 ∨ x = s1.heap.objs.size ∨ x = s1.heap.objs.size + 1 ∨ x = s1.heap.objs.size + 2 := by simpa using hx
    rcases e' with z | z | z | z | z | z <;> (rw [z]; first | exact Nat.le_refl _ | exact Nat.le_add_right _ _)
  exact I1.fpOk hle (I1.hok.fresh hle)
theorem z2_go {tg : Expr} (htg : isTupG tg) {H1 : Hp} {R : It → Hp → Prop} {vs : List V} {xs ds : List D} (r1 : RpA X.K H1 vs xs) (e2 : dZip2 xs = some ds) (k : ∀ J Gd, ItD tg X.K J ds Gd → Gd H1 → R J H1) : ∃ t1 t2 a b xs ys, vs = [V.ref a, V.ref b] ∧ SqB X.K H1 t1 a xs ∧ SqB X.K H1 t2 b ys ∧ R (ItZ2 X.K t1 a t2 b) H1 := by
  unfold dZip2 at e2
  split at e2
  · rename_i x y
    obtain ⟨us, e3, e4⟩ := Option.bind_eq_some_iff.mp e2
    obtain ⟨ws, e5, rfl⟩ := Option.map_eq_some_iff.mp e4
    cases r1 with
    | cons p q =>
      cases q with
      | cons p' q' =>
        cases q'
        obtain ⟨t1, a, us', rfl, h1, r1⟩ := p.row e3
        obtain ⟨t2, b, ws', rfl, h2, r2⟩ := p'.row e5
        exact ⟨t1, t2, a, b, us', ws', rfl, h1.sq, h2.sq, k _ _ (itd_z2 htg) ⟨⟨h1, r1⟩, h2, r2⟩⟩
  · cases e2
theorem z3_go {tg : Expr} (htg : isTupG tg) {H1 : Hp} {R : It → Hp → Prop} {vs : List V} {xs ds : List D} (r1 : RpA X.K H1 vs xs) (e2 : dZip3 xs = some ds) (k : ∀ J Gd, ItD tg X.K J ds Gd → Gd H1 → R J H1) : ∃ t1 t2 t3 a b d xs ys zs, vs = [V.ref a, V.ref b, V.ref d] ∧ SqB X.K H1 t1 a xs ∧ SqB X.K H1 t2 b ys ∧ SqB X.K H1 t3 d zs ∧ R (ItZ3 X.K t1 a t2 b t3 d) H1 := by
  unfold dZip3 at e2
  split at e2
  · rename_i x y z
    obtain ⟨us, e3, e4⟩ := Option.bind_eq_some_iff.mp e2
    obtain ⟨ws, e5, e6⟩ := Option.bind_eq_some_iff.mp e4
    obtain ⟨zs, e7, rfl⟩ := Option.map_eq_some_iff.mp e6
    cases r1 with
    | cons p q =>
      cases q with
      | cons p' q' =>
        cases q' with
        | cons p'' q'' =>
          cases q''
          obtain ⟨t1, a, us', rfl, h1, r1⟩ := p.row e3
          obtain ⟨t2, b, ws', rfl, h2, r2⟩ := p'.row e5
          obtain ⟨t3, d, zs', rfl, h3, r3⟩ := p''.row e7
          exact ⟨t1, t2, t3, a, b, d, us', ws', zs', rfl, h1.sq, h2.sq, h3.sq, k _ _ (itd_z3 htg) ⟨⟨h1, r1⟩, ⟨h2, r2⟩, h3, r3⟩⟩
  · cases e2
section
variable {Γ : Env_} {e e2 e3 : Expr} {p pos : Pos}
theorem di_zip2 {m : Option (List D)} (hm : X.mg "zip" = none) (h : DA X c Γ [e, e2] m) (hg : Gl X "zip" := by rfl) (hs : NoStar X [e, e2] := by exact ⟨rfl, rfl, trivial⟩) (hpl : (backTo pos (starEach [e2] X.env)).any (·.1) = false := by rfl) : DI X c Γ (.Tuple elts kk tpos) (.Call (.Name "zip" p) [e, e2] [] pos) (m.bind dZip2) := fun ds hd σ H R E k => by
  obtain ⟨x, e1, e4⟩ := Option.bind_eq_some_iff.mp hd
  exact sI_of (pi_z2 hg hm (pa_s hs) hs.1 hpl) (h x e1 σ H _ E fun v H1 s1 r1 => z2_go (tg := .Tuple elts kk tpos) trivial r1 e4 fun J Gd i g => k J H1 Gd s1 i g)
theorem di_zip3 {m : Option (List D)} (hm : X.mg "zip" = none) (h : DA X c Γ [e, e2, e3] m) (hg : Gl X "zip" := by rfl) (hs : NoStar X [e, e2, e3] := by exact ⟨rfl, rfl, rfl, trivial⟩) (hpl : (backTo pos (starEach [e2, e3] X.env)).any (·.1) = false := by rfl) : DI X c Γ (.Tuple elts kk tpos) (.Call (.Name "zip" p) [e, e2, e3] [] pos) (m.bind dZip3) := fun ds hd σ H R E k => by
  obtain ⟨x, e1, e4⟩ := Option.bind_eq_some_iff.mp hd
  exact sI_of (pi_z3 hg hm (pa_s hs) hs.1 hpl) (h x e1 σ H _ E fun v H1 s1 r1 => z3_go (tg := .Tuple elts kk tpos) trivial r1 e4 fun J Gd i g => k J H1 Gd s1 i g)
variable {T : Type} {G : T → Env_}
theorem dxi_zip2 {m : T → Option (List D × T)} (hm : X.mg "zip" = none) (h : DXA X c G [e, e2] m) (hg : Gl X "zip" := by rfl) (hs : NoStar X [e, e2] := by exact ⟨rfl, rfl, trivial⟩) (hpl : (backTo pos (starEach [e2] X.env)).any (·.1) = false := by rfl) : DXI X c G (.Tuple elts kk tpos) (.Call (.Name "zip" p) [e, e2] [] pos) (bindX m dZip2) := fun t ds t' hd σ H R E k => by
  obtain ⟨x, e1, e4⟩ := bindX_eq hd
  exact sI_of (pi_z2 hg hm (pa_s hs) hs.1 hpl) (h t x t' e1 σ H _ E fun v H1 E1 s1 r1 => z2_go (tg := .Tuple elts kk tpos) trivial r1 e4 fun J Gd i g => k J H1 Gd E1 s1 i g)
theorem dxi_zip3 {m : T → Option (List D × T)} (hm : X.mg "zip" = none) (h : DXA X c G [e, e2, e3] m) (hg : Gl X "zip" := by rfl) (hs : NoStar X [e, e2, e3] := by exact ⟨rfl, rfl, rfl, trivial⟩) (hpl : (backTo pos (starEach [e2, e3] X.env)).any (·.1) = false := by rfl) : DXI X c G (.Tuple elts kk tpos) (.Call (.Name "zip" p) [e, e2, e3] [] pos) (bindX m dZip3) := fun t ds t' hd σ H R E k => by
  obtain ⟨x, e1, e4⟩ := bindX_eq hd
  exact sI_of (pi_z3 hg hm (pa_s hs) hs.1 hpl) (h t x t' e1 σ H _ E fun v H1 E1 s1 r1 => z3_go (tg := .Tuple elts kk tpos) trivial r1 e4 fun J Gd i g => k J H1 Gd E1 s1 i g)
end
end
end DL

set_option Elab.async false
set_option linter.all false
set_option maxRecDepth 100000
set_option maxHeartbeats 2000000
set_option autoImplicit false
namespace DL
open PySem PySem.Spec PyProof.Rows L2
/-! ### defs: promises that hold where no guard stands (repr asks for that) -/
abbrev Sp0 := List V → Hp → VK → Prop
structure FnG (P : Program) (w : World) (K : Fr_) (mg : Str → Option Value) (base : Heap) (k : Nat) (f : Addr) (fd : FuncData) (ps : List Str) (sp : Sp0) : Prop where
  many : ∀ {vs : List V} {H : Hp} {Q : VK}, sp vs H Q → vs.length = ps.length
  runs : ∀ {A : Around} {outer : List Env} {s : Shared} {H : Hp} {args : Args} {us : List Value} {vs : List V} {Q : VK}, Room k A → A.guards = some [] → Env0 P w K mg base A outer s H → BindsTo s fd args (ps.zip us) → Vals vs us → sp vs H Q →
    codeAny (model P w) A (.call (.ref f) args) (CR CX0 outer P w H s Q E0) s
structure CalG (P : Program) (w : World) (K : Fr_) (mg : Str → Option Value) (base : Heap) (k : Nat) (x : Str) (sp : Sp0) : Prop where
  ex : ∃ (f : Addr) (fd : FuncData) (ps : List Str), FnG P w K mg base k f fd ps sp ∧ mg x = some (.ref f) ∧ PySem.W.keepIn K (.ref f) = true ∧ Binds K fd ps []
theorem CalG.up {P : Program} {w : World} {K : Fr_} {mg : Str → Option Value} {base : Heap} {j k : Nat} {x : Str} {sp : Sp0} (c : CalG P w K mg base j x sp) (h : j ≤ k) : CalG P w K mg base k x sp := by
  obtain ⟨f, fd, ps, F, r⟩ := c.ex
  exact ⟨f, fd, ps, ⟨F.many, fun hr => F.runs (hr.mono h)⟩, r⟩
/-- the context of a body that lets nothing out -/
abbrev BX (P : Program) (w : World) (K : Fr_) (mg : Str → Option Value) (base : Heap) (N : List Str) (x : Str) (scope : Scope) (f : Addr) (cdv : Value) (A : Around) (outer : List Env) (s : Shared) (H : Hp) : Cx := (cxOf CX0 P w K mg base N x scope f cdv A outer s H E0).nox
section
variable {P : Program} {w : World} {K : Fr_} {mg : Str → Option Value} {base : Heap} {x : Str} {params : Arguments} {body : List Stmt} {scope : Scope} {N ps : List Str} {k : Nat} {sp : Sp0}
/-- a def by its body's own meaning -/
theorem calG_of (F : ∃ (f : Addr) (fd : FuncData), FunD K x x params body scope [] [] f fd ∧ mg x = some (.ref f)) (S : FnScope N ps scope)
    (hb : ∀ (kV doc pm : Value) (an : Option Addr) (cdv ct : Value) (us : List Value), us.length = ps.length → bindArgs (PySem.W.fnOf x x params body scope .none kV doc pm an cdv ct) ⟨us, []⟩ = pure (ps.zip us))
    (many : ∀ {vs : List V} {H : Hp} {Q : VK}, sp vs H Q → vs.length = ps.length)
    (run : ∀ (f : Addr) (cdv : Value) (A : Around) (outer : List Env) (s : Shared) (H : Hp) (vs : List V) (Q : VK), Room k (A.deeper (envOfC x scope s.heap.objs.size f cdv)) → A.guards = some [] → sp vs H Q →
      sSs (BX P w K mg base N x scope f cdv A outer s H) body { nx := fun _ H' => Q .non H', rt := Q } (L2.start N vs) H) : CalG P w K mg base (k + 1) x sp := by
  obtain ⟨f, fd, FD, hm⟩ := F
  have hbd : Binds K fd ps [] := FD.bindsN hb
  refine ⟨f, fd, ps, ⟨many, ?_⟩, hm, FD.kp, hbd⟩
  obtain ⟨oc, od, dV, kV, doc, pm, an, cdv, ct, osl, rfl, lk, hcd, _, _⟩ := FD.ex
  intro A outer s H args us vs Q room gd env bt rv hsp
  have hK : K.In s.heap := env.mod.kin.keeps fun b o e => (env.bs b o e).1
  have hL : s.heap.NoLimit := env.mod.nolimit.keeps fun b o e => (env.bs b o e).1
  have kinds : ∀ y ∈ ps.zip us, scope.names.lookup y.1 = some .local ∨ (scope.names.lookup y.1 = some .cell ∧ ((cellsFrom (s.heap.objs.size + 1) scope.names []).lookup y.1).isSome = true) := by
    intro y hy
    have z := S.par y.1 (List.of_mem_zip hy).1
    exact z.imp id fun q => ⟨q, PySem.W.cellsFrom_some _ _ _ (.inl q)⟩
  apply codeAny_call_function room.depth (hK _ _ lk) rfl S.co S.gen rfl (PySem.W.codeRec_of hK hcd)
  apply bt
  refine wpAny_newFunctionEnv_cells S.kind kinds fun env' he s1 inC => ?_
  subst he
  refine ⟨hL.keeps inC.toInCall.keep, codeAny_func ?_⟩
  have I0 := inv_start (CX := CX0) (E := E0) (P := P) (w := w) (K := K) (mg := mg) (base := base) S room.hd env (many hsp) rv inC
  have body_ := (pss_s body).nox.run [] s1 (L2.start N vs) H _ I0 (run f cdv A outer s H vs Q (room.deeper _) gd hsp)
  refine wpAny_mono body_ (fun fl s' hs => ?_) fun e s' hs => hs
  have done : ∀ {σ' : L2.St} {H' : Hp} {v : V} {u : Value}, Inv (cxOf CX0 P w K mg base N x scope f cdv A outer s H E0) [] σ' H' s' → RelV v u → Q v H' → CE outer P w H s Q u s' := by
    intro σ' H' v u J r q
    exact ⟨v, H', J.os, J.bare, J.base, J.hok, r, q⟩
  match fl, hs with
  | .ret u, ⟨v, σ', H', J, r, q⟩ => exact done J r q
  | .next, ⟨σ', H', J, q⟩ => exact done (v := V.non) (u := Value.none) J rfl q
  | .brk, ⟨_, _, _, q⟩ => exact q.elim
  | .cont, ⟨_, _, _, q⟩ => exact q.elim
end
/-! calls -/
section
variable {X : Cx} {k : Nat} {x : Str} {sp : Sp0} {p pos : Pos} {e : Expr} {es : List Expr} {t : TA}
theorem pe_callG (F : CalG X.prog X.w X.K X.mg X.base k x sp) (room : Room k X.A) (gd : X.A.guards = some []) (hg : Gl X x) (ha : PA X (e :: es) t) (hdb : (x == ("__debug__" : Str)) = false) (he : starEach (e :: es) X.env = (false, eval e X.env) :: starEach es X.env) (hpl : (backTo pos (starEach es X.env)).any (·.1) = false) :
    PE X (.Call (.Name x p) (e :: es) [] pos) (fun σ H Q => t σ H fun vs H1 => sp vs H1 Q) := by
  obtain ⟨f, fd, ps, FF, hm, hk, hb⟩ := F.ex
  constructor
  intro pins s σ H Q I h
  apply wpAny_Call_Name_kw
  apply ld_glob I hg hm _ hdb
  refine PySem.W.callWith_K (h₀ := X.base) I.ok.mod.kin hk (thn (ha.run pos pins s σ H _ I h) fun us s1 ⟨vs, H1, I1, r, q⟩ => ⟨I1.kIn, ?_⟩) he hpl
  have hl : us.length = ps.length := r.length.symm.trans (FF.many q)
  have bt := hb s1 us I1.kIn (by rw [List.append_nil]; exact hl)
  rw [List.append_nil] at bt
  refine wpAny_call (codeAny_mono (FF.runs (args := ⟨us, []⟩) room gd I1.env0 bt r q) fun rr s' hq => ?_)
  match rr, hq with
  | .ok (.ret u), hq => exact I1.after hq
theorem pe_callG0 (F : CalG X.prog X.w X.K X.mg X.base k x sp) (room : Room k X.A) (gd : X.A.guards = some []) (hg : Gl X x) (hdb : (x == ("__debug__" : Str)) = false) : PE X (.Call (.Name x p) [] [] pos) (fun σ H Q => sp [] H Q) := by
  obtain ⟨f, fd, ps, FF, hm, hk, hb⟩ := F.ex
  constructor
  intro pins s σ H Q I h
  apply wpAny_Call_Name_kw
  apply ld_glob I hg hm _ hdb
  refine PySem.W.callWith_K0 I.kIn hk ?_
  have hl : ([] : List Value).length = ps.length := FF.many h
  have bt := hb s [] I.kIn hl
  refine wpAny_call (codeAny_mono (FF.runs (args := ⟨[], []⟩) room gd I.env0 bt .nil h) fun rr s' hq => ?_)
  match rr, hq with
  | .ok (.ret u), hq => exact I.after hq
end
/-! promises -/
def spP (K : Fr_) (g : List D → Option D) : Sp0 := fun vs H Q => ∃ ds z, RpA K H vs ds ∧ g ds = some z ∧ ∀ v H', Same H H' → Rp K H' v z → Q v H'
def spF (K : Fr_) (g : List D → Option (List D)) : Sp0 := fun vs H Q => ∃ ds z, RpA K H vs ds ∧ g ds = some z ∧ ∀ a H' xs, H a = none → Same H H' → H' a = some (.lst xs) → RpA K H' xs z → Q (.ref a) H'
/-- the first parameter is a list that the def may change -/
def spM (K : Fr_) (g : List D → List D → Option (D × List D)) : Sp0 := fun vs H Q => ∃ a us xs ps ds z ps', vs = V.ref a :: us ∧ H a = some (.lst xs) ∧ RpA K H xs ps ∧ RpA K H us ds ∧ g ps ds = some (z, ps') ∧
  ∀ v H' ys, (∀ b o, H b = some o → b ≠ a → H' b = some o) → H' a = some (.lst ys) → RpA K H' ys ps' → Rp K H' v z → Q v H'
def spMF (K : Fr_) (g : List D → List D → Option (List D × List D)) : Sp0 := fun vs H Q => ∃ a us xs ps ds z ps', vs = V.ref a :: us ∧ H a = some (.lst xs) ∧ RpA K H xs ps ∧ RpA K H us ds ∧ g ps ds = some (z, ps') ∧
  ∀ b H' ys zs, H b = none → (∀ b o, H b = some o → b ≠ a → H' b = some o) → H' a = some (.lst ys) → RpA K H' ys ps' → H' b = some (.lst zs) → RpA K H' zs z → Q (.ref b) H'
def envP (n : Nat) (ds : List D) : Env_ := ds.map .imm ++ List.replicate (n - ds.length) .any
theorem start_at {N : List Str} {vs : List V} {i : Nat} {v : V} (h : vs[i]? = some v) : (L2.start N vs)[i]? = some (some v) := by
  unfold L2.start
  have hl := (List.getElem?_eq_some_iff.mp h).1
  rw [List.getElem?_append_left (by rw [List.length_map]; exact hl), List.getElem?_map, h]
  rfl
theorem envP_own {n : Nat} {ds : List D} {i : Nat} {k : Cell} (h : (envP n ds)[i]? = some k) : k.isOwn = false := by
  unfold envP at h
  rcases List.mem_append.mp (List.mem_of_getElem? h) with z | z
  · obtain ⟨d, _, rfl⟩ := List.mem_map.mp z
    rfl
  · rw [List.eq_of_mem_replicate z]
    rfl
theorem env_start {K : Fr_} {H : Hp} {N : List Str} {vs : List V} {ds : List D} (r : RpA K H vs ds) (hl : ds.length ≤ N.length) : EnvOk K ⟨H, []⟩ (L2.start N vs) H (envP N.length ds) := by
  refine ⟨fun i k h => ?_, fun i j k l a hij h1 h2 => ?_, fun b o h _ => h, fun a ⟨i, k, h1, h2, _⟩ => ?_, fun p hp => (by cases hp), ?_⟩
  · by_cases hi : i < ds.length
    · unfold envP at h
      rw [List.getElem?_append_left (by rw [List.length_map]; exact hi), List.getElem?_map, List.getElem?_eq_getElem hi] at h
      cases h
      obtain ⟨v, e1, e2⟩ := r.get (List.getElem?_eq_getElem hi)
      exact ⟨v, start_at e1, e2⟩
    · unfold envP at h
      rw [List.getElem?_append_right (by rw [List.length_map]; omega)] at h
      rw [List.eq_of_mem_replicate (List.mem_of_getElem? h)]
      trivial
  · rw [envP_own h1] at h2
    cases h2
  · rw [envP_own h1] at h2
    cases h2
  · unfold L2.start envP
    rw [List.length_append, List.length_append, List.length_map, List.length_map, List.length_replicate, List.length_replicate, r.length]
def envM (n : Nat) (ps ds : List D) : Env_ := .own ps :: (ds.map .imm ++ List.replicate (n - 1 - ds.length) .any)
theorem env_startM {K : Fr_} {H : Hp} {N : List Str} {a : Addr} {us xs : List V} {ps ds : List D} (ha : H a = some (.lst xs)) (rp : RpA K H xs ps) (r : RpA K H us ds) (hl : ds.length + 1 ≤ N.length) : EnvOk K ⟨H, [(0, a)]⟩ (L2.start N (.ref a :: us)) H (envM N.length ps ds) := by
  have tail : ∀ {i : Nat} {k : Cell}, (envM N.length ps ds)[i + 1]? = some k → (envP (N.length - 1) ds)[i]? = some k := fun h => h
  have own0 : ∀ {i : Nat} {k : Cell}, (envM N.length ps ds)[i]? = some k → k.isOwn = true → i = 0 := fun {i k} h ho => by
    cases i with
    | zero => rfl
    | succ i =>
      rw [envP_own (tail h)] at ho
      cases ho
  refine ⟨fun i k h => ?_, fun i j k l b hij h1 h2 h3 h4 _ _ => hij ((own0 h1 h2).trans (own0 h3 h4).symm), fun b o h _ => h, fun b ⟨i, k, h1, h2, h3⟩ => ?_, fun p hp => ?_, ?_⟩
  · cases i with
    | zero =>
      cases h
      exact ⟨a, xs, start_at rfl, ha, rp⟩
    | succ i =>
      have h' := tail h
      by_cases hi : i < ds.length
      · unfold envP at h'
        rw [List.getElem?_append_left (by rw [List.length_map]; exact hi), List.getElem?_map, List.getElem?_eq_getElem hi] at h'
        cases h'
        obtain ⟨v, e1, e2⟩ := r.get (List.getElem?_eq_getElem hi)
        exact ⟨v, start_at (by simpa using e1), e2⟩
      · unfold envP at h'
        rw [List.getElem?_append_right (by rw [List.length_map]; omega)] at h'
        rw [List.eq_of_mem_replicate (List.mem_of_getElem? h')]
        trivial
  · have e := own0 h1 h2
    subst e
    rw [start_at (v := V.ref a) rfl] at h3
    cases h3
    exact .inl ⟨(0, a), List.mem_singleton.mpr rfl, rfl⟩
  · rw [List.mem_singleton.mp hp]
    exact ⟨start_at rfl, _, rfl, rfl⟩
  · unfold L2.start envM
    have := r.length
    simp only [List.length_append, List.length_cons, List.length_map, List.length_replicate]
    omega
/-! ends -/
abbrev GE : Empty → Env_ := fun e => nomatch e
def RKp (K : Fr_) (H : Hp) : D → V → Hp → Prop := fun d v H' => Same H H' ∧ Rp K H' v d
def RKf (K : Fr_) (H : Hp) : List D → V → Hp → Prop := fun d v H' => Same H H' ∧ ∃ a xs, v = .ref a ∧ H a = none ∧ H' a = some (.lst xs) ∧ RpA K H' xs d
def RKm (K : Fr_) (H : Hp) (a : Addr) : D × List D → V → Hp → Prop := fun q v H' => (∀ b o, H b = some o → b ≠ a → H' b = some o) ∧ (∃ ys, H' a = some (.lst ys) ∧ RpA K H' ys q.2) ∧ Rp K H' v q.1
def RKmf (K : Fr_) (H : Hp) (a : Addr) : List D × List D → V → Hp → Prop := fun q v H' => (∀ b o, H b = some o → b ≠ a → H' b = some o) ∧ (∃ ys, H' a = some (.lst ys) ∧ RpA K H' ys q.2) ∧ ∃ b zs, v = .ref b ∧ H b = none ∧ H' b = some (.lst zs) ∧ RpA K H' zs q.1
theorem EnvOk.same0 {K : Fr_} {H H' : Hp} {σ : St} {Γ : Env_} (E : EnvOk K ⟨H, []⟩ σ H' Γ) : Same H H' := fun b o h => E.pres b o h fun p hp => by cases hp
theorem EnvOk.but {K : Fr_} {H H' : Hp} {a : Addr} {σ : St} {Γ : Env_} (E : EnvOk K ⟨H, [(0, a)]⟩ σ H' Γ) : ∀ b o, H b = some o → b ≠ a → H' b = some o := fun b o h hne => E.pres b o h fun p hp e => hne (by rw [List.mem_singleton.mp hp] at e; exact e.symm)
theorem EnvOk.pot {K : Fr_} {H H' : Hp} {a : Addr} {σ : St} {Γ : Env_} {ps : List D} (E : EnvOk K ⟨H, [(0, a)]⟩ σ H' Γ) (h : Γ[0]? = some (.own ps)) : ∃ ys, H' a = some (.lst ys) ∧ RpA K H' ys ps := by
  obtain ⟨b, xs, e1, e2, e3⟩ := E.ownAt h
  have e4 := (E.pins (0, a) (List.mem_singleton.mpr rfl)).1
  rw [e4] at e1
  cases e1
  exact ⟨xs, e2, e3⟩
theorem rkp {K : Fr_} {H : Hp} {Γ : Env_} : ∀ (d : D) (v : V) (σ : St) (H' : Hp), EnvOk K ⟨H, []⟩ σ H' Γ → Rp K H' v d → RKp K H d v H' := fun d v σ H' E r => ⟨E.same0, r⟩
theorem rkf {K : Fr_} {H : Hp} {Γ : Env_} : ∀ (d : List D) (a : Addr) (xs : List V) (σ : St) (H' : Hp), EnvOk K ⟨H, []⟩ σ H' Γ → H a = none → H' a = some (.lst xs) → RpA K H' xs d → RKf K H d (.ref a) H' := fun d a xs σ H' E h0 ha r => ⟨E.same0, a, xs, rfl, h0, ha, r⟩
theorem rkm {K : Fr_} {H : Hp} {a : Addr} {Γ : Env_} {ps : List D} (h : Γ[0]? = some (.own ps) := by rfl) : ∀ (d : D) (v : V) (σ : St) (H' : Hp), EnvOk K ⟨H, [(0, a)]⟩ σ H' Γ → Rp K H' v d → RKm K H a (d, ps) v H' := fun d v σ H' E r => ⟨E.but, E.pot h, r⟩
theorem rkmf {K : Fr_} {H : Hp} {a : Addr} {Γ : Env_} {ps : List D} (h : Γ[0]? = some (.own ps) := by rfl) : ∀ (d : List D) (b : Addr) (xs : List V) (σ : St) (H' : Hp), EnvOk K ⟨H, [(0, a)]⟩ σ H' Γ → H b = none → H' b = some (.lst xs) → RpA K H' xs d → RKmf K H a (d, ps) (.ref b) H' := fun d b xs σ H' E h0 hb r => ⟨E.but, E.pot h, b, xs, rfl, h0, hb, r⟩
def finP : Fl Unit Empty D → Option D
  | .rt d => some d
  | .nx _ => some .none
  | _ => none
def finF : Fl Unit Empty (List D) → Option (List D)
  | .rt d => some d
  | _ => none
def finM : Fl (List D) Empty (D × List D) → Option (D × List D)
  | .rt d => some d
  | .nx ps => some (.none, ps)
  | _ => none
def finMF : Fl (List D) Empty (List D × List D) → Option (List D × List D)
  | .rt d => some d
  | _ => none
section
variable {P : Program} {w : World} {K : Fr_} {mg : Str → Option Value} {base : Heap} {x : Str} {params : Arguments} {body : List Stmt} {scope : Scope} {N ps : List Str} {k : Nat}
theorem calP (F : ∃ (f : Addr) (fd : FuncData), FunD K x x params body scope [] [] f fd ∧ mg x = some (.ref f)) (S : FnScope N ps scope)
    (hb : ∀ (kV doc pm : Value) (an : Option Addr) (cdv ct : Value) (us : List Value), us.length = ps.length → bindArgs (PySem.W.fnOf x x params body scope .none kV doc pm an cdv ct) ⟨us, []⟩ = pure (ps.zip us)) (hN : ps.length ≤ N.length)
    (mb : List D → Option (Fl Unit Empty D)) (hl : ∀ ds o, mb ds = some o → ds.length = ps.length)
    (run : ∀ (f : Addr) (cdv : Value) (A : Around) (outer : List Env) (s : Shared) (H : Hp) (ds : List D), ds.length = ps.length → Room k (A.deeper (envOfC x scope s.heap.objs.size f cdv)) → A.guards = some [] →
      DB (BX P w K mg base N x scope f cdv A outer s H) ⟨H, []⟩ (fun _ => List.replicate N.length .any) GE (RKp K H) (envP N.length ds) body (mb ds)) : CalG P w K mg base (k + 1) x (spP K fun ds => (mb ds).bind finP) := by
  refine calG_of F S hb (fun {vs H Q} ⟨ds, z, r, e, _⟩ => ?_) fun f cdv A outer s H vs Q room gd ⟨ds, z, r, e, kq⟩ => ?_
  · obtain ⟨o, e1, _⟩ := Option.bind_eq_some_iff.mp e
    rw [r.length, hl ds o e1]
  · obtain ⟨o, e1, e2⟩ := Option.bind_eq_some_iff.mp e
    have hd := hl ds o e1
    refine run f cdv A outer s H ds hd room gd o e1 _ H _ (env_start r (by rw [hd]; exact hN)) ⟨?_, fun b => (nomatch b), fun b => (nomatch b), ?_⟩
    · rintro n rfl σ' H' E _
      cases e2
      exact kq _ _ E.same0 .non
    · rintro d rfl v H' ⟨q1, q2⟩
      cases e2
      exact kq v H' q1 q2
theorem calF (F : ∃ (f : Addr) (fd : FuncData), FunD K x x params body scope [] [] f fd ∧ mg x = some (.ref f)) (S : FnScope N ps scope)
    (hb : ∀ (kV doc pm : Value) (an : Option Addr) (cdv ct : Value) (us : List Value), us.length = ps.length → bindArgs (PySem.W.fnOf x x params body scope .none kV doc pm an cdv ct) ⟨us, []⟩ = pure (ps.zip us)) (hN : ps.length ≤ N.length)
    (mb : List D → Option (Fl Unit Empty (List D))) (hl : ∀ ds o, mb ds = some o → ds.length = ps.length)
    (run : ∀ (f : Addr) (cdv : Value) (A : Around) (outer : List Env) (s : Shared) (H : Hp) (ds : List D), ds.length = ps.length → Room k (A.deeper (envOfC x scope s.heap.objs.size f cdv)) → A.guards = some [] →
      DB (BX P w K mg base N x scope f cdv A outer s H) ⟨H, []⟩ (fun _ => List.replicate N.length .any) GE (RKf K H) (envP N.length ds) body (mb ds)) : CalG P w K mg base (k + 1) x (spF K fun ds => (mb ds).bind finF) := by
  refine calG_of F S hb (fun {vs H Q} ⟨ds, z, r, e, _⟩ => ?_) fun f cdv A outer s H vs Q room gd ⟨ds, z, r, e, kq⟩ => ?_
  · obtain ⟨o, e1, _⟩ := Option.bind_eq_some_iff.mp e
    rw [r.length, hl ds o e1]
  · obtain ⟨o, e1, e2⟩ := Option.bind_eq_some_iff.mp e
    have hd := hl ds o e1
    refine run f cdv A outer s H ds hd room gd o e1 _ H _ (env_start r (by rw [hd]; exact hN)) ⟨?_, fun b => (nomatch b), fun b => (nomatch b), ?_⟩
    · rintro n rfl σ' H' E _
      cases e2
    · rintro d rfl v H' ⟨q1, a, xs, rfl, q2, q3, q4⟩
      cases e2
      exact kq a H' xs q2 q1 q3 q4
theorem calM (F : ∃ (f : Addr) (fd : FuncData), FunD K x x params body scope [] [] f fd ∧ mg x = some (.ref f)) (S : FnScope N ps scope)
    (hb : ∀ (kV doc pm : Value) (an : Option Addr) (cdv ct : Value) (us : List Value), us.length = ps.length → bindArgs (PySem.W.fnOf x x params body scope .none kV doc pm an cdv ct) ⟨us, []⟩ = pure (ps.zip us)) (hN : ps.length ≤ N.length)
    (mb : List D → List D → Option (Fl (List D) Empty (D × List D))) (hl : ∀ qs ds o, mb qs ds = some o → ds.length + 1 = ps.length)
    (run : ∀ (f : Addr) (cdv : Value) (A : Around) (outer : List Env) (s : Shared) (H : Hp) (a : Addr) (qs ds : List D), ds.length + 1 = ps.length → Room k (A.deeper (envOfC x scope s.heap.objs.size f cdv)) → A.guards = some [] →
      DB (BX P w K mg base N x scope f cdv A outer s H) ⟨H, [(0, a)]⟩ (fun qs => .own qs :: List.replicate (N.length - 1) .any) GE (RKm K H a) (envM N.length qs ds) body (mb qs ds)) : CalG P w K mg base (k + 1) x (spM K fun qs ds => (mb qs ds).bind finM) := by
  refine calG_of F S hb (fun {vs H Q} ⟨a, us, xs, qs, ds, z, ps', ev, ha, rx, r, e, _⟩ => ?_) fun f cdv A outer s H vs Q room gd ⟨a, us, xs, qs, ds, z, ps', ev, ha, rx, r, e, kq⟩ => ?_
  · obtain ⟨o, e1, _⟩ := Option.bind_eq_some_iff.mp (show (mb qs ds).bind _ = some (z, ps') from e)
    rw [ev, List.length_cons, r.length, hl qs ds o e1]
  · subst ev
    obtain ⟨o, e1, e2⟩ := Option.bind_eq_some_iff.mp (show (mb qs ds).bind _ = some (z, ps') from e)
    have hd := hl qs ds o e1
    refine run f cdv A outer s H a qs ds hd room gd o e1 _ H _ (env_startM ha rx r (by rw [hd]; exact hN)) ⟨?_, fun b => (nomatch b), fun b => (nomatch b), ?_⟩
    · rintro n rfl σ' H' E _
      cases e2
      obtain ⟨ys, h1, h2⟩ := E.pot rfl
      exact kq _ _ ys E.but h1 h2 .non
    · rintro d rfl v H' ⟨q1, ⟨ys, q2, q3⟩, q4⟩
      cases e2
      exact kq v H' ys q1 q2 q3 q4
theorem calMF (F : ∃ (f : Addr) (fd : FuncData), FunD K x x params body scope [] [] f fd ∧ mg x = some (.ref f)) (S : FnScope N ps scope)
    (hb : ∀ (kV doc pm : Value) (an : Option Addr) (cdv ct : Value) (us : List Value), us.length = ps.length → bindArgs (PySem.W.fnOf x x params body scope .none kV doc pm an cdv ct) ⟨us, []⟩ = pure (ps.zip us)) (hN : ps.length ≤ N.length)
    (mb : List D → List D → Option (Fl (List D) Empty (List D × List D))) (hl : ∀ qs ds o, mb qs ds = some o → ds.length + 1 = ps.length)
    (run : ∀ (f : Addr) (cdv : Value) (A : Around) (outer : List Env) (s : Shared) (H : Hp) (a : Addr) (qs ds : List D), ds.length + 1 = ps.length → Room k (A.deeper (envOfC x scope s.heap.objs.size f cdv)) → A.guards = some [] →
      DB (BX P w K mg base N x scope f cdv A outer s H) ⟨H, [(0, a)]⟩ (fun qs => .own qs :: List.replicate (N.length - 1) .any) GE (RKmf K H a) (envM N.length qs ds) body (mb qs ds)) : CalG P w K mg base (k + 1) x (spMF K fun qs ds => (mb qs ds).bind finMF) := by
  refine calG_of F S hb (fun {vs H Q} ⟨a, us, xs, qs, ds, z, ps', ev, ha, rx, r, e, _⟩ => ?_) fun f cdv A outer s H vs Q room gd ⟨a, us, xs, qs, ds, z, ps', ev, ha, rx, r, e, kq⟩ => ?_
  · obtain ⟨o, e1, _⟩ := Option.bind_eq_some_iff.mp (show (mb qs ds).bind _ = some (z, ps') from e)
    rw [ev, List.length_cons, r.length, hl qs ds o e1]
  · subst ev
    obtain ⟨o, e1, e2⟩ := Option.bind_eq_some_iff.mp (show (mb qs ds).bind _ = some (z, ps') from e)
    have hd := hl qs ds o e1
    refine run f cdv A outer s H a qs ds hd room gd o e1 _ H _ (env_startM ha rx r (by rw [hd]; exact hN)) ⟨?_, fun b => (nomatch b), fun b => (nomatch b), ?_⟩
    · rintro n rfl σ' H' E _
      cases e2
    · rintro d rfl v H' ⟨q1, ⟨ys, q2, q3⟩, b, zs, rfl, q4, q5, q6⟩
      cases e2
      exact kq b H' ys zs q4 q1 q2 q3 q5 q6
end
end DL

set_option Elab.async false
set_option linter.all false
set_option maxRecDepth 100000
set_option maxHeartbeats 2000000
set_option autoImplicit false
namespace DL
open PySem PySem.Spec PyProof.Rows L2
/-! ### calls of defs -/
section
variable {X : Cx} {c : FC} {Γ : Env_} {k : Nat} {x : Str} {p pos : Pos} {e : Expr} {es : List Expr}
theorem de_call {g : List D → Option D} {m : Option (List D)} (F : CalG X.prog X.w X.K X.mg X.base k x (spP X.K g)) (room : Room k X.A) (gd : X.A.guards = some []) (ha : DA X c Γ (e :: es) m) (hg : Gl X x := by rfl) (hs : NoStar X (e :: es) := by exact ⟨rfl, rfl, rfl, rfl, trivial⟩) (hdb : (x == ("__debug__" : Str)) = false := by decide) (hpl : (backTo pos (starEach es X.env)).any (·.1) = false := by rfl) :
    DE X c Γ (.Call (.Name x p) (e :: es) [] pos) (m.bind g) := fun d hd σ H Q E kq => by
  obtain ⟨ds, e1, e2⟩ := Option.bind_eq_some_iff.mp hd
  exact sE_of (pe_callG F room gd hg (pa_s hs) hdb hs.1 hpl) (ha ds e1 σ H _ E fun vs H1 s1 r1 => ⟨ds, d, r1, e2, fun v H2 s2 r2 => kq v H2 (s1.trans s2) r2⟩)
theorem de_call0 {g : List D → Option D} (F : CalG X.prog X.w X.K X.mg X.base k x (spP X.K g)) (room : Room k X.A) (gd : X.A.guards = some []) (hg : Gl X x := by rfl) (hdb : (x == ("__debug__" : Str)) = false := by decide) : DE X c Γ (.Call (.Name x p) [] [] pos) (g []) := fun d hd σ H Q E kq =>
  sE_of (pe_callG0 F room gd hg hdb) ⟨[], d, .nil, hd, fun v H2 s2 r2 => kq v H2 s2 r2⟩
theorem df_call {g : List D → Option (List D)} {m : Option (List D)} (F : CalG X.prog X.w X.K X.mg X.base k x (spF X.K g)) (room : Room k X.A) (gd : X.A.guards = some []) (ha : DA X c Γ (e :: es) m) (hg : Gl X x := by rfl) (hs : NoStar X (e :: es) := by exact ⟨rfl, rfl, rfl, rfl, trivial⟩) (hdb : (x == ("__debug__" : Str)) = false := by decide) (hpl : (backTo pos (starEach es X.env)).any (·.1) = false := by rfl) :
    DF X c Γ (.Call (.Name x p) (e :: es) [] pos) (m.bind g) := fun d hd σ H Q E kq => by
  obtain ⟨ds, e1, e2⟩ := Option.bind_eq_some_iff.mp hd
  exact sE_of (pe_callG F room gd hg (pa_s hs) hdb hs.1 hpl) (ha ds e1 σ H _ E fun vs H1 s1 r1 => ⟨ds, d, r1, e2, fun a H2 xs hn s2 h2 r2 => kq a H2 xs (s1.free hn) (s1.trans s2) h2 r2⟩)
theorem df_call0 {g : List D → Option (List D)} (F : CalG X.prog X.w X.K X.mg X.base k x (spF X.K g)) (room : Room k X.A) (gd : X.A.guards = some []) (hg : Gl X x := by rfl) (hdb : (x == ("__debug__" : Str)) = false := by decide) : DF X c Γ (.Call (.Name x p) [] [] pos) (g []) := fun d hd σ H Q E kq =>
  sE_of (pe_callG0 F room gd hg hdb) ⟨[], d, .nil, hd, fun a H2 xs hn s2 h2 r2 => kq a H2 xs hn s2 h2 r2⟩
/-- f(list just made, ..), f may change the list -/
theorem de_callN {g : List D → List D → Option (D × List D)} {m : Option (List D)} {ms : Option (List D)} (F : CalG X.prog X.w X.K X.mg X.base k x (spM X.K g)) (room : Room k X.A) (gd : X.A.guards = some []) (he : DF X c Γ e m) (ha : DA X c Γ es ms) (hg : Gl X x := by rfl) (hs : NoStar X (e :: es) := by exact ⟨rfl, rfl, rfl, rfl, trivial⟩) (hdb : (x == ("__debug__" : Str)) = false := by decide) (hpl : (backTo pos (starEach es X.env)).any (·.1) = false := by rfl) :
    DE X c Γ (.Call (.Name x p) (e :: es) [] pos) (m.bind fun ps => ms.bind fun ds => (g ps ds).map (·.1)) := fun d hd σ H Q E kq => by
  obtain ⟨ps, e1, e2⟩ := Option.bind_eq_some_iff.mp hd
  obtain ⟨ds, e3, e4⟩ := Option.bind_eq_some_iff.mp e2
  obtain ⟨⟨z, ps'⟩, e5, rfl⟩ := Option.map_eq_some_iff.mp e4
  refine sE_of (pe_callG F room gd hg (pa_s hs) hdb hs.1 hpl) (he ps e1 σ H _ E fun a H1 xs hn s1 h1 r1 => ha ds e3 σ H1 _ (E.same s1) fun vs H2 s2 r2 => ⟨a, vs, xs, ps, ds, z, ps', rfl, s2 _ _ h1, r1.mono (.of_same s2), r2, e5, fun v H3 ys f1 f2 f3 f4 => kq v H3 (fun b o hb => f1 b o (s2 _ _ (s1 _ _ hb)) (ne_of_none hb hn)) f4⟩)
end
section
variable {X : Cx} {c : FC} {k : Nat} {x y : Str} {p pos py : Pos} {e : Expr} {es : List Expr}
theorem dx_call {T : Type} {G : T → Env_} {g : List D → Option D} {m : T → Option (List D × T)} (F : CalG X.prog X.w X.K X.mg X.base k x (spP X.K g)) (room : Room k X.A) (gd : X.A.guards = some []) (ha : DXA X c G (e :: es) m) (hg : Gl X x := by rfl) (hs : NoStar X (e :: es) := by exact ⟨rfl, rfl, rfl, rfl, trivial⟩) (hdb : (x == ("__debug__" : Str)) = false := by decide) (hpl : (backTo pos (starEach es X.env)).any (·.1) = false := by rfl) :
    DX X c G (.Call (.Name x p) (e :: es) [] pos) (appX g m) := fun t d t' hd σ H Q E kq => by
  obtain ⟨⟨ds, t1⟩, e1, e2⟩ := Option.bind_eq_some_iff.mp hd
  obtain ⟨z, e3, e4⟩ := Option.map_eq_some_iff.mp e2
  cases e4
  exact sE_of (pe_callG F room gd hg (pa_s hs) hdb hs.1 hpl) (ha t ds _ e1 σ H _ E fun vs H1 E1 s1 r1 => ⟨ds, _, r1, e3, fun v H2 s2 r2 => kq v H2 (E1.same s2) (s1.trans (.of_same E1 s2)) r2⟩)
theorem dxf_call {T : Type} {G : T → Env_} {g : List D → Option (List D)} {m : T → Option (List D × T)} (F : CalG X.prog X.w X.K X.mg X.base k x (spF X.K g)) (room : Room k X.A) (gd : X.A.guards = some []) (ha : DXA X c G (e :: es) m) (hg : Gl X x := by rfl) (hs : NoStar X (e :: es) := by exact ⟨rfl, rfl, rfl, rfl, trivial⟩) (hdb : (x == ("__debug__" : Str)) = false := by decide) (hpl : (backTo pos (starEach es X.env)).any (·.1) = false := by rfl) :
    DXF X c G (.Call (.Name x p) (e :: es) [] pos) (appX g m) := fun t d t' hd σ H Q E kq => by
  obtain ⟨⟨ds, t1⟩, e1, e2⟩ := Option.bind_eq_some_iff.mp hd
  obtain ⟨z, e3, e4⟩ := Option.map_eq_some_iff.mp e2
  cases e4
  exact sE_of (pe_callG F room gd hg (pa_s hs) hdb hs.1 hpl) (ha t ds _ e1 σ H _ E fun vs H1 E1 s1 r1 => ⟨ds, _, r1, e3, fun a H2 xs hn s2 h2 r2 => kq a H2 xs (s1.free E hn) (E1.same s2) (s1.trans (.of_same E1 s2)) h2 r2⟩)
/-- the list that slot i holds was changed by a callee -/
theorem env_called {G : List D → Env_} {i : Nat} {ps qs : List D} {σ : St} {H H' : Hp} {a : Addr} {ys : List V} {K : Fr_} (E : EnvOk K c σ H (G ps)) (h : (G ps)[i]? = some (.own ps)) (hP : (G ps).set i (.own qs) = G qs) (ea : σ[i]? = some (some (.ref a))) (f1 : ∀ b o, H b = some o → b ≠ a → H' b = some o) (f2 : H' a = some (.lst ys)) (f3 : RpA K H' ys qs) :
    EnvOk K c σ H' (G qs) ∧ Step (G ps) (G qs) σ H H' := by
  have E2 := E.write h ea f1 f2 f3
  rw [hP] at E2
  have own_iff : ∀ b, Owns (G qs) σ b → Owns (G ps) σ b := fun b ⟨j, q, e1, e2, e3⟩ => by
    rw [← hP] at e1
    by_cases ej : i = j
    · subst ej
      exact ⟨i, _, h, rfl, e3⟩
    · rw [List.getElem?_set_ne ej] at e1
      exact ⟨j, q, e1, e2, e3⟩
  refine ⟨E2, ⟨fun b o hb hn => f1 b o hb fun z => hn ⟨i, _, h, rfl, z ▸ ea⟩, own_iff, fun b hb => ?_⟩⟩
  by_cases eb : b = a
  · rw [eb, f2]
    intro z
    cases z
  · obtain ⟨xs, q, _⟩ := E.owned hb
    rw [f1 b _ q eb]
    intro z
    cases z
variable {G : List D → Env_}
theorem dx_callM {g : List D → List D → Option (D × List D)} {ms : List D → Option (List D × List D)} (i : Nat) (F : CalG X.prog X.w X.K X.mg X.base k x (spM X.K g)) (room : Room k X.A) (gd : X.A.guards = some []) (ha : DXA X c G es ms) (hG : ∀ ps, (G ps)[i]? = some (.own ps) := by intro _; rfl) (hP : ∀ ps qs, (G ps).set i (.own qs) = G qs := by intros; rfl)
    (hN : X.N[i]? = some y := by rfl) (hv : Vis X.env.scope y := by first | exact Or.inl rfl | exact Or.inr (Or.inl rfl) | exact Or.inr (Or.inr rfl)) (hg : Gl X x := by rfl) (hs : NoStar X (.Name y py :: es) := by exact ⟨rfl, rfl, rfl, rfl, trivial⟩) (hdb : (x == ("__debug__" : Str)) = false := by decide) (hpl : (backTo pos (starEach es X.env)).any (·.1) = false := by rfl)
    (hd : (y == ("__debug__" : Str)) = false := by decide) (hcd : (y == ("__classdict__" : Str)) = false := by decide) : DX X c G (.Call (.Name x p) (.Name y py :: es) [] pos) (fun ps => (ms ps).bind fun q => g q.2 q.1) := fun t d t' hd' σ H Q E kq => by
  obtain ⟨⟨ds, t1⟩, e1, e2⟩ := Option.bind_eq_some_iff.mp hd'
  refine sE_of (pe_callG F room gd hg (pa_cons (pe_var hN hv hd hcd) (pa_s hs.2) hs.1) hdb hs.1 hpl) ?_
  obtain ⟨a, xs, ea, _, _⟩ := E.ownAt (hG t)
  refine ⟨_, ea, ha t ds t1 e1 σ H _ E fun vs H1 E1 s1 r1 => ?_⟩
  obtain ⟨a', ys, ea', hl, ry⟩ := E1.ownAt (hG t1)
  rw [ea] at ea'
  cases ea'
  refine ⟨a, vs, ys, t1, ds, d, t', rfl, hl, ry, r1, e2, fun v H2 zs f1 f2 f3 f4 => ?_⟩
  obtain ⟨E2, s2⟩ := env_called E1 (hG t1) (hP t1 t') ea f1 f2 f3
  exact kq v H2 E2 (s1.trans s2) f4
theorem dxf_callM {g : List D → List D → Option (List D × List D)} {ms : List D → Option (List D × List D)} (i : Nat) (F : CalG X.prog X.w X.K X.mg X.base k x (spMF X.K g)) (room : Room k X.A) (gd : X.A.guards = some []) (ha : DXA X c G es ms) (hG : ∀ ps, (G ps)[i]? = some (.own ps) := by intro _; rfl) (hP : ∀ ps qs, (G ps).set i (.own qs) = G qs := by intros; rfl)
    (hN : X.N[i]? = some y := by rfl) (hv : Vis X.env.scope y := by first | exact Or.inl rfl | exact Or.inr (Or.inl rfl) | exact Or.inr (Or.inr rfl)) (hg : Gl X x := by rfl) (hs : NoStar X (.Name y py :: es) := by exact ⟨rfl, rfl, rfl, rfl, trivial⟩) (hdb : (x == ("__debug__" : Str)) = false := by decide) (hpl : (backTo pos (starEach es X.env)).any (·.1) = false := by rfl)
    (hd : (y == ("__debug__" : Str)) = false := by decide) (hcd : (y == ("__classdict__" : Str)) = false := by decide) : DXF X c G (.Call (.Name x p) (.Name y py :: es) [] pos) (fun ps => (ms ps).bind fun q => g q.2 q.1) := fun t d t' hd' σ H Q E kq => by
  obtain ⟨⟨ds, t1⟩, e1, e2⟩ := Option.bind_eq_some_iff.mp hd'
  refine sE_of (pe_callG F room gd hg (pa_cons (pe_var hN hv hd hcd) (pa_s hs.2) hs.1) hdb hs.1 hpl) ?_
  obtain ⟨a, xs, ea, _, _⟩ := E.ownAt (hG t)
  refine ⟨_, ea, ha t ds t1 e1 σ H _ E fun vs H1 E1 s1 r1 => ?_⟩
  obtain ⟨a', ys, ea', hl, ry⟩ := E1.ownAt (hG t1)
  rw [ea] at ea'
  cases ea'
  refine ⟨a, vs, ys, t1, ds, d, t', rfl, hl, ry, r1, e2, fun b H2 us zs hb f1 f2 f3 f4 f5 => ?_⟩
  obtain ⟨E2, s2⟩ := env_called E1 (hG t1) (hP t1 t') ea f1 f2 f3
  exact kq b H2 zs (s1.free E hb) E2 (s1.trans s2) f4 f5
end
/-! ### isinstance, repr, list(range(..)), sorted -/
def tyN : D → String
  | .none => "NoneType"
  | .bool _ => "bool"
  | .int _ => "int"
  | .str _ => "str"
  | .list _ => "list"
  | .tuple _ => "tuple"
  | .dict _ => "dict"
def dIsi (T : String) (d : D) : Option D := match T with
  | "int" => some (.bool (match d with | .int _ => true | .bool _ => true | _ => false))
  | "bool" => some (.bool (match d with | .bool _ => true | _ => false))
  | "str" => some (.bool (match d with | .str _ => true | _ => false))
  | "tuple" => some (.bool (match d with | .tuple _ => true | _ => false))
  | "list" => some (.bool (match d with | .list _ => true | _ => false))
  | _ => none
theorem dIsi_kit {T : String} {d z : D} (h : dIsi T d = some z) : ∃ b, z = .bool b ∧ kitB (tyN d) T = some b := by
  unfold dIsi at h
  split at h
  · refine ⟨_, (Option.some.inj h).symm, ?_⟩
    cases d <;> (dsimp only [tyN]; decide +kernel)
  · refine ⟨_, (Option.some.inj h).symm, ?_⟩
    cases d <;> (dsimp only [tyN]; decide +kernel)
  · refine ⟨_, (Option.some.inj h).symm, ?_⟩
    cases d <;> (dsimp only [tyN]; decide +kernel)
  · refine ⟨_, (Option.some.inj h).symm, ?_⟩
    cases d <;> (dsimp only [tyN]; decide +kernel)
  · refine ⟨_, (Option.some.inj h).symm, ?_⟩
    cases d <;> (dsimp only [tyN]; decide +kernel)
  · cases h
theorem tyX_of {K : Fr_} {H : Hp} {v : V} {d : D} (r : RpW K H v d) : TyX K H v (.type (tyN d)) := by
  have seqL : ∀ {a : Addr} {xs : List V}, SqL K H a xs → TyX K H (.ref a) (.type "list") := fun {a xs} h => by
    rcases h with (h | ⟨o, h⟩) | ⟨o, its, n, h1, h2, _⟩
    · exact .base (.lst h)
    · exact .base (.frz h)
    · exact .kList h1 h2
  have seqT : ∀ {a : Addr} {xs : List V}, SqT K H a xs → TyX K H (.ref a) (.type "tuple") := fun {a xs} h => by
    rcases h with (h | ⟨o, h⟩) | ⟨o, its, n, h1, h2, _⟩
    · exact .base (.tup h)
    · exact .fTuple h
    · exact .kTuple h1 h2
  cases r with
  | st r =>
    cases r with
    | non => exact .base .non
    | bl b => exact .base (.bl b)
    | int i => exact .base (.int i)
    | str x => exact .base (.str x)
    | lst h _ => exact seqL h.sq
    | tup h _ => exact seqT h.sq
    | dct h _ _ => exact let ⟨_, h⟩ := h; .fDict h
  | ow h _ => exact .base (.lst h)
  | od h _ => exact .base (.dK h)
section
variable {X : Cx} {c : FC} {Γ : Env_}
theorem de_isi {T : String} {x : Str} {e : Expr} {m : Option D} {p px pos : Pos} (hm : X.mg "isinstance" = none) (hm2 : X.mg x = none) (he : DW X c Γ e m) (hv : bootBuiltins x = some (.type T) := by decide +kernel) (hg : Gl X "isinstance" := by rfl) (hg2 : Gl X x := by rfl) (hn : x ≠ "__name__" := by decide) (hdb : (x == ("__debug__" : Str)) = false := by decide)
    (hs : NoStar X [e, .Name x px] := by exact ⟨rfl, rfl, trivial⟩) (hpl : (backTo pos (starEach [Expr.Name x px] X.env)).any (·.1) = false := by rfl) : DE X c Γ (.Call (.Name "isinstance" p) [e, .Name x px] [] pos) (m.bind (dIsi T)) := fun d hd σ H Q E k => by
  obtain ⟨a, e1, e2⟩ := Option.bind_eq_some_iff.mp hd
  obtain ⟨b, rfl, hk⟩ := dIsi_kit e2
  refine sE_of (pe_callB call_isi hg hm boot_isinstance (pa_cons (pe_s e) (pa_cons (pe_bltn (v := V.ty T) hg2 hm2 hv rfl hn hdb) pa_nil hs.2.1) hs.1) (by decide) (by decide) hs.1 hpl) ?_
  exact he a e1 σ H _ E fun v H1 s1 r1 => ⟨v, .ty T, _, _, b, rfl, .ty T, tyX_of r1, kit_ty hk, k _ H1 s1 (.bl b)⟩
theorem dx_isi {S : Type} {G : S → Env_} {T : String} {x : Str} {e : Expr} {m : S → Option (D × S)} {p px pos : Pos} (hm : X.mg "isinstance" = none) (hm2 : X.mg x = none) (he : DX X c G e m) (hv : bootBuiltins x = some (.type T) := by decide +kernel) (hg : Gl X "isinstance" := by rfl) (hg2 : Gl X x := by rfl) (hn : x ≠ "__name__" := by decide) (hdb : (x == ("__debug__" : Str)) = false := by decide)
    (hs : NoStar X [e, .Name x px] := by exact ⟨rfl, rfl, trivial⟩) (hpl : (backTo pos (starEach [Expr.Name x px] X.env)).any (·.1) = false := by rfl) : DX X c G (.Call (.Name "isinstance" p) [e, .Name x px] [] pos) (bindX m (dIsi T)) := fun t d t' hd σ H Q E k => by
  obtain ⟨a, e1, e2⟩ := bindX_eq hd
  obtain ⟨b, rfl, hk⟩ := dIsi_kit e2
  refine sE_of (pe_callB call_isi hg hm boot_isinstance (pa_cons (pe_s e) (pa_cons (pe_bltn (v := V.ty T) hg2 hm2 hv rfl hn hdb) pa_nil hs.2.1) hs.1) (by decide) (by decide) hs.1 hpl) ?_
  exact he t a t' e1 σ H _ E fun v H1 E1 s1 r1 => ⟨v, .ty T, _, _, b, rfl, .ty T, tyX_of (.st r1), kit_ty hk, k _ H1 E1 s1 (.bl b)⟩
theorem cd_repr (gd : X.A.guards = some []) (hu : X.A.units + 100 < cLine) : CallD X (.builtin "repr") dRepr := by
  intro pins s σ H vs us Q I rs ⟨ds, z, h, e, k⟩
  unfold dRepr at e
  split at e
  · rename_i d
    split at e
    · rename_i hb
      cases e
      obtain ⟨b1, b2⟩ := Bool.and_eq_true_iff.mp hb
      obtain ⟨b3, b4⟩ := Bool.and_eq_true_iff.mp b2
      obtain ⟨b5, b6⟩ := Bool.and_eq_true_iff.mp b4
      have hlen : d.shown.length ≤ 1000000 := of_decide_eq_true b3
      have hnd : d.hasDict = false := by simpa using b5
      have hdp : d.depth ≤ 64 := of_decide_eq_true b6
      have hsz : d.shown.length ≤ sizeLine := Nat.le_trans hlen (by decide)
      obtain ⟨v, rfl, h1⟩ := h.one
      obtain ⟨u, rfl, ru⟩ := vals1 rs
      obtain ⟨as, rr⟩ := Dp.reads I d v u (h1.dp hnd) ru
      have fin : ∀ (a : Addr), u = .ref a → wpAny (model X.prog X.w) X.A (call (.builtin "repr") [u]) (EP X pins σ Q) X.xe s := fun a ea => by
        subst ea
        exact repr_of_reads' rr b1 (PyData.noDict_hsm hnd) gd (by omega) (fun _ _ e => e) (fun h' u' tk hk => ⟨.str d.shown, H, I.kept (t' := tk) hk, ⟨u', rfl⟩, k _ H (Same.refl H) (.str _)⟩) hsz
      cases h1 with
      | st h1 =>
        cases h1 with
        | lst _ _ => exact fin _ ru
        | tup _ _ => exact fin _ ru
        | dct _ _ _ => exact fin _ ru
        | non =>
          cases (show u = Value.none from ru)
          exact PySem.P.repr_of_none ⟨.str _, H, I.tok _, ⟨_, rfl⟩, k _ H (Same.refl H) (.str _)⟩
        | bl b =>
          cases (show u = Value.bool b from ru)
          refine PySem.P.repr_of_bool ⟨.str _, H, I.tok _, ⟨_, rfl⟩, ?_⟩
          cases b
          · exact k _ H (Same.refl H) (.str _)
          · exact k _ H (Same.refl H) (.str _)
        | int i =>
          obtain ⟨t, q⟩ := (show ∃ t, u = Value.int i t from ru)
          cases q
          have hi : i.natAbs.log2 < 1920 := by
            have b1' : (PyData.int i).showable = true := b1
            simpa [PyData.showable] using b1'
          exact PySem.P.repr_of_int hi ⟨.str _, H, I.tok _, ⟨_, rfl⟩, k _ H (Same.refl H) (.str _)⟩
        | str y =>
          obtain ⟨t, q⟩ := (show ∃ t, u = Value.str y t from ru)
          cases q
          exact PySem.P.repr_of_str ⟨.str _, H, I.tok _, ⟨_, rfl⟩, k _ H (Same.refl H) (.str _)⟩ hsz
      | ow _ _ => exact fin _ ru
      | od _ _ => exact fin _ ru
    · cases e
  · cases e
theorem rpa_each {pins : List (Addr × Obj)} {σ : St} {H : Hp} {s : Shared} (I : Inv X pins σ H s) : ∀ {xs : List V} {its : List Value} {es : List D}, RpA X.K H xs es → (∀ d ∈ es, d.hasDict = false) → Vals xs its → PySem.W.EachIs (fun u d => (∃ w, RelV w u ∧ Rp X.K H w d) ∧ ∃ as, Reads s.heap u d as) its es
  | _, _, _, .nil, _, .nil => .nil
  | _, _, _, .cons h r, n, .cons a b => .cons ⟨⟨_, a, h⟩, Dp.reads I _ _ _ (h.dp (n _ List.mem_cons_self)) a⟩ (rpa_each I r (fun x hx => n x (List.mem_cons_of_mem _ hx)) b)
/-- the items of a list, a tuple, and how they are taken -/
theorem seq_items {X : Cx} {pins : List (Addr × Obj)} {σ : St} {H : Hp} {s : Shared} (I : Inv X pins σ H s) {v : V} {d : D} {ds : List D} (h1 : RpW X.K H v d) (e : seqD d = some ds) : ∃ (p : Addr) (xs : List V) (its : List Value), v = .ref p ∧ RpA X.K H xs ds ∧ Vals xs its ∧ xs.length ≤ sizeLine ∧ ∀ A : Around, Collects X.prog X.w A s (.ref p) its := by
  have go : ∀ (t : Bool) (p : Addr) (xs : List V), SqB X.K H t p xs → ∃ its : List Value, Vals xs its ∧ xs.length ≤ sizeLine ∧ ∀ A : Around, Collects X.prog X.w A s (.ref p) its := fun t p xs hq => by
    obtain ⟨its, rv, sq, hz, _⟩ := inv_seqB I hq
    have hl : its.toArray.size ≤ sizeLine := by rw [List.size_toArray, ← rv.length]; exact hz
    refine ⟨its, rv, hz, fun A => ?_⟩
    cases t with
    | true =>
      obtain ⟨o, h1, h2, n, h3⟩ := sq
      exact collects_seq (.inr rfl) h1 h2 h3 hl
    | false =>
      obtain ⟨o, h1, h2, n, h3⟩ := sq
      exact collects_seq (.inl rfl) h1 h2 h3 hl
  unfold seqD at e
  split at e
  · cases e
    obtain ⟨p, xs, rfl, hp, r⟩ := h1.list
    obtain ⟨its, a, b, c⟩ := go false p xs hp
    exact ⟨p, xs, its, rfl, r, a, b, c⟩
  · cases e
    obtain ⟨p, xs, rfl, hp, r⟩ := h1.tuple
    obtain ⟨its, a, b, c⟩ := go true p xs hp
    exact ⟨p, xs, its, rfl, r, a, b, c⟩
  · cases e
theorem each_back {K : Fr_} {H : Hp} {out : List Value} {es : List D} (q : PySem.W.EachIs (fun u d => ∃ w, RelV w u ∧ Rp K H w d) out es) : ∃ ws : List V, Vals ws out ∧ RpA K H ws es := by
  induction q with
  | nil => exact ⟨[], .nil, .nil⟩
  | cons h _ ih =>
    obtain ⟨w, h1, h2⟩ := h
    obtain ⟨ws, h3, h4⟩ := ih
    exact ⟨w :: ws, .cons h1 h3, .cons h2 h4⟩
theorem sortOk2_iff {ds : List D} (h : sortOk2 ds = true) : ds.length ≤ 100000 ∧ AllCmp ds ∧ ∀ d ∈ ds, d.depth ≤ 64 := by
  obtain ⟨h1, h2⟩ := Bool.and_eq_true_iff.mp h
  have z := fun d hd => List.all_eq_true.mp h2 d hd
  refine ⟨of_decide_eq_true h1, fun d hd => ?_, fun d hd => ?_⟩
  · obtain ⟨a, b⟩ := Bool.and_eq_true_iff.mp (z d hd)
    obtain ⟨b1, b2⟩ := Bool.and_eq_true_iff.mp b
    obtain ⟨b3, b4⟩ := Bool.and_eq_true_iff.mp b2
    refine ⟨?_, by simpa using b1, fun d' hd' => List.all_eq_true.mp b4 d' hd'⟩
    split at a
    · exact ⟨_, _, rfl⟩
    · cases a
  · obtain ⟨a, b⟩ := Bool.and_eq_true_iff.mp (z d hd)
    obtain ⟨b1, b2⟩ := Bool.and_eq_true_iff.mp b
    exact of_decide_eq_true (Bool.and_eq_true_iff.mp b2).1
theorem cf_sorted (hu : X.A.units + 100 < cLine) : CallF X (.builtin "sorted") dSorted := by
  intro pins s σ H vs us Q I rs ⟨ds, z, h, e, k⟩
  unfold dSorted at e
  split at e
  · rename_i d0
    obtain ⟨ds', es, e⟩ := Option.bind_eq_some_iff.mp e
    split at e
    · rename_i hb
      cases e
      obtain ⟨v, rfl, h1⟩ := h.one
      obtain ⟨p, xs, its, rfl, r, rv, hz, hcol⟩ := seq_items I h1 es
      obtain ⟨u, rfl, ru⟩ := vals1 rs
      cases ru
      -- what is known of the items, either way
      have all : ds'.length ≤ 100000 ∧ (∀ x ∈ ds', x.hasDict = false ∧ x.depth ≤ 64) ∧ ∀ (A' : Around) (s' : Shared) (vs' : List Value), A'.units = X.A.units + 2 → PySem.W.EachIs (fun v d => ∃ as, Reads s'.heap v d as) vs' ds' → PySem.W.SortsAt X.prog X.w A' s' (PySem.W.dataKind s'.heap ds') vs' ∧ PySem.W.EachIs (fun v d => (PySem.W.dataKind s'.heap ds').keyOf v = some (PySem.W.keyToks d)) vs' ds' := by
        rcases Bool.or_eq_true_iff.mp hb with hb | hb
        · obtain ⟨b1, b2⟩ := Bool.and_eq_true_iff.mp hb
          obtain ⟨b3, b4⟩ := Bool.and_eq_true_iff.mp b2
          obtain ⟨a1, a2⟩ := allAlike_iff b3
          have srt : PySem.W.Sortable ds' := by
            rcases Bool.or_eq_true_iff.mp b4 with q | q
            · refine .inl fun d hd => ?_
              have z := List.all_eq_true.mp q d hd
              split at z
              · exact ⟨_, _, rfl⟩
              · cases z
            · refine .inr fun d hd => ⟨(a1 d hd).1, fun xs ex => ?_⟩
              have z := List.all_eq_true.mp q d hd
              rw [ex] at z
              cases z
          refine ⟨of_decide_eq_true b1, fun x hx => ⟨(a1 x hx).2.2, (a1 x hx).2.1⟩, fun A' s' vs' hA ev => ⟨PySem.W.SortsAt.data ev a2 srt fun d hd => ?_, PySem.W.each_keys a2 ev⟩⟩
          have := (a1 d hd).2.1
          omega
        · obtain ⟨c1, c2, c3⟩ := sortOk2_iff hb
          refine ⟨c1, fun x hx => ⟨(c2 x hx).2.1, c3 x hx⟩, fun A' s' vs' hA ev => ⟨sorts_cmp ev c2 fun d hd => ?_, keys_cmp (fun d hd => (c2 d hd).2.1) (fun d hd => hd) ev⟩⟩
          have := c3 d hd
          omega
      obtain ⟨hlen, hdd, hS⟩ := all
      have ea := rpa_each I r (fun x hx => (hdd x hx).1) rv
      have hlv : its.length = ds'.length := ea.length
      have ereads : ∀ h' : Heap, (∀ b o, s.heap.get? b = some o → h'.get? b = some o) → PySem.W.EachIs (fun v d => ∃ as, Reads h' v d as) its ds' := fun h' kp => ea.mono fun _ _ ⟨_, as, q⟩ => ⟨as, PyProof.Rows.Reads.keeps kp q⟩
      have kp2 : ∀ h' : Heap, (∀ b o, s.heap.get? b = some o → h'.get? b = some o) → ∀ b o, s.heap.get? b = some o → (PySem.W.sortingHeap (h'.push (seqObj "list" its.toArray 0)) h'.objs.size its).get? b = some o := fun h' kp b o q => sortingOver_old (kp b o q)
      have hin : X.A.in1.in1.units = X.A.units + 2 := by first | rfl | (simp [Around.in1]; omega)
      refine sorted_gen (κ := fun h' => PySem.W.dataKind (PySem.W.sortingHeap (h'.push (seqObj "list" its.toArray 0)) h'.objs.size its) ds') (hcol _) (by rw [hlv]; exact Nat.le_trans hlen (by decide)) (fun h' tk kp => (hS _ _ _ hin (ereads _ (kp2 h' kp))).1) fun h' tk kp => ?_
      have eo : PySem.W.EachIs (fun u d => ∃ w, RelV w u ∧ Rp X.K H w d) (PySem.W.sortVals (PySem.W.dataKind (PySem.W.sortingHeap (h'.push (seqObj "list" its.toArray 0)) h'.objs.size its) ds') false its its) (ds'.mergeSort (PySem.W.dataLe false fun d => d)) :=
        PySem.W.sortVals_each (κ := PySem.W.dataKind _ ds') (fun b => PySem.W.keyToks b) (ea.mono fun _ _ q => q.1) (hS X.A.in1.in1 { s with heap := PySem.W.sortingHeap (h'.push (seqObj "list" its.toArray 0)) h'.objs.size its } its hin (ereads _ (kp2 h' kp))).2
      obtain ⟨ws, w1, w2⟩ := each_back eo
      obtain ⟨ep, he'⟩ := sortedOver_at h' its (PySem.W.sortVals (PySem.W.dataKind (PySem.W.sortingHeap (h'.push (seqObj "list" its.toArray 0)) h'.objs.size its) ds') false its its).toArray
      have I0 : Inv X pins σ H { s with heap := h', toks := tk } := I.kept (t' := tk) kp
      have hn : H h'.objs.size = none := I0.hok.fresh (Nat.le_refl _)
      have ho : (PySem.W.sortVals (PySem.W.dataKind (PySem.W.sortingHeap (h'.push (seqObj "list" its.toArray 0)) h'.objs.size its) ds') false its its).length = ds'.length := by rw [PySem.W.sortVals_length false rfl]; exact hlv
      have I1 : Inv X pins σ (upd H h'.objs.size (.lst ws)) { s with heap := sortedOver h' its (PySem.W.sortVals (PySem.W.dataKind (PySem.W.sortingHeap (h'.push (seqObj "list" its.toArray 0)) h'.objs.size its) ds') false its its).toArray, toks := tk } := I0.laid (t' := tk) (fun b o q => sortedOver_old q) (Nat.le_refl _) ⟨by rw [w1.length, ho]; exact Nat.le_trans hlen (by decide), _, ep, w1, he'⟩
      exact ⟨.ref _, _, I1, rfl, k _ _ ws hn (Same.new hn) upd_same (w2.mono (.of_same (Same.new hn)))⟩
    · cases e
  · cases e
/-- list(range(n)) -/
noncomputable def dLR1 : D → Option (List D)
  | .int b => if rOk b && cl (b ≤ 100000) then some (rangeL 0 b) else none
  | _ => none
noncomputable def dLR2 : D → D → Option (List D)
  | .int a, .int b => if rOk a && (rOk b && cl (b - a ≤ 100000)) then some (rangeL a b) else none
  | _, _ => none
theorem rgV_rp {K : Fr_} {H : Hp} (a b : Int) : RpA K H (rgV a b) (rangeL a b) := by
  unfold rgV rangeL
  generalize (List.range (b - a).toNat) = l
  induction l with
  | nil => exact .nil
  | cons n r ih => exact .cons (.int _) ih
theorem df_lr1 {e : Expr} {m : Option D} {p p2 pos pos2 : Pos} (hc : X.calm = true) (hl : X.mg "list" = none) (hm : X.mg "range" = none) (he : DE X c Γ e m) (hgl : Gl X "list" := by rfl) (hg : Gl X "range" := by rfl) (na : starEach [e] X.env = (false, eval e X.env) :: starEach [] X.env := by rfl)
    (nb : starEach [Expr.Call (.Name "range" p2) [e] [] pos2] X.env = (false, eval (.Call (.Name "range" p2) [e] [] pos2) X.env) :: starEach [] X.env := by rfl) : DF X c Γ (.Call (.Name "list" p) [.Call (.Name "range" p2) [e] [] pos2] [] pos) (m.bind dLR1) := fun ds hd σ H Q E k => by
  obtain ⟨d, e1, e2⟩ := Option.bind_eq_some_iff.mp hd
  unfold dLR1 at e2
  split at e2
  · split at e2
    · rename_i hb
      cases e2
      obtain ⟨h1, h2⟩ := Bool.and_eq_true_iff.mp hb
      obtain ⟨h3, h4⟩ := rOk_iff h1
      have h5 := cl_iff.mp h2
      refine sE_of (pe_listRg hc hgl hl (prg_1 hg hm (pe_s e) na) nb) (he _ e1 σ H _ E fun v H1 s1 r1 => ⟨_, RpW.int (.st r1), ⟨by omega, by omega, h3, h4, by omega⟩, fun q hq => ?_⟩)
      exact k q _ _ (s1.free hq) (s1.trans (Same.new hq)) upd_same (rgV_rp _ _)
    · cases e2
  · cases e2
theorem df_lr2 {e e' : Expr} {m m' : Option D} {p p2 pos pos2 : Pos} (hc : X.calm = true) (hl : X.mg "list" = none) (hm : X.mg "range" = none) (he : DE X c Γ e m) (he' : DE X c Γ e' m') (hgl : Gl X "list" := by rfl) (hg : Gl X "range" := by rfl) (na : starEach [e, e'] X.env = (false, eval e X.env) :: starEach [e'] X.env := by rfl) (na' : starEach [e'] X.env = (false, eval e' X.env) :: starEach [] X.env := by rfl) (hpl : (backTo pos2 (starEach [e'] X.env)).any (·.1) = false := by rfl)
    (nb : starEach [Expr.Call (.Name "range" p2) [e, e'] [] pos2] X.env = (false, eval (.Call (.Name "range" p2) [e, e'] [] pos2) X.env) :: starEach [] X.env := by rfl) : DF X c Γ (.Call (.Name "list" p) [.Call (.Name "range" p2) [e, e'] [] pos2] [] pos) (m.bind fun a => m'.bind fun b => dLR2 a b) := fun ds hd σ H Q E k => by
  obtain ⟨d, e1, e2⟩ := Option.bind_eq_some_iff.mp hd
  obtain ⟨d', e3, e4⟩ := Option.bind_eq_some_iff.mp e2
  unfold dLR2 at e4
  split at e4
  · split at e4
    · rename_i hb
      cases e4
      obtain ⟨h1, h2⟩ := Bool.and_eq_true_iff.mp hb
      obtain ⟨h6, h7⟩ := Bool.and_eq_true_iff.mp h2
      obtain ⟨h3, h4⟩ := rOk_iff h1
      obtain ⟨h8, h9⟩ := rOk_iff h6
      have h5 := cl_iff.mp h7
      refine sE_of (pe_listRg hc hgl hl (prg_2 hg hm (pe_s e) (pe_s e') na na' hpl) nb) (he _ e1 σ H _ E fun v H1 s1 r1 => he' _ e3 σ H1 _ (E.same s1) fun v2 H2 s2 r2 => ⟨_, _, RpW.int (.st r1), RpW.int (.st r2), ⟨h3, h4, h8, h9, by omega⟩, fun q hq => ?_⟩)
      exact k q _ _ ((s1.trans s2).free hq) ((s1.trans s2).trans (Same.new hq)) upd_same (rgV_rp _ _)
    · cases e4
  · cases e4
end
end DL

set_option Elab.async false
set_option linter.all false
set_option maxRecDepth 100000
set_option maxHeartbeats 2000000
set_option autoImplicit false
namespace DL
open PySem PySem.Spec PyProof.Rows L2
def castFl {N B R : Type} : Fl Empty B R → Fl N B R
  | .nx e => nomatch e
  | .bk b => .bk b
  | .ct b => .ct b
  | .rt r => .rt r

section
variable {X : Cx} {c : FC} {N B R : Type} {GN : N → Env_} {GB : B → Env_} {RK : R → V → Hp → Prop} {Γ : Env_} {rest : List Stmt}
theorem cast_fin {H : Hp} {D : Ends} {o1 : Fl Empty B R} {t : TS} (f : Fin_ X.K c GN GB RK H (castFl o1) D) (n : St → Hp → Prop) : Fin_ X.K c GE GB RK H o1 { D with nx := n } := by
  cases o1 with
  | nx n => cases n
  | bk b => exact ⟨(fun n => nomatch n), (fun b' e => by cases e; exact f.bk b rfl), (fun b e => nomatch e), (fun b e => nomatch e)⟩
  | ct b => exact ⟨(fun n => nomatch n), (fun b e => nomatch e), (fun b' e => by cases e; exact f.ct b rfl), (fun b e => nomatch e)⟩
  | rt r => exact ⟨(fun n => nomatch n), (fun b e => nomatch e), (fun b e => nomatch e), (fun b' e => by cases e; exact f.rt r rfl)⟩
theorem db_cast {sts : List Stmt} {m : Option (Fl Empty B R)} (h : DB X c GE GB RK Γ sts m) : DB X c GN GB RK Γ sts (m.map castFl) := fun o e σ H D E f => by
  obtain ⟨o1, e1, rfl⟩ := Option.map_eq_some_iff.mp e
  exact h o1 e1 σ H D E (cast_fin (t := fun _ _ _ => True) f D.nx)
/-- the first branch does not go on -/
theorem db_ifr {t : Expr} {a : List Stmt} {mt : Option Bool} {ma : Option (Fl Empty B R)} {mr : Option (Fl N B R)} {pos : Pos} (ht : DT X c Γ t mt) (ha : DB X c GE GB RK Γ a ma) (hr : DB X c GN GB RK Γ rest mr) :
    DB X c GN GB RK Γ (.If t a [] pos :: rest) (iteO mt (ma.map castFl) mr) := fun o h σ H D E f => by
  obtain ⟨x, e3, e4⟩ := Option.bind_eq_some_iff.mp h
  refine sSs_cons (ps_if (pt_s t) (pss_s a) pss_nil) (ht x e3 σ H _ E fun H1 s1 => ?_)
  cases x with
  | true =>
    obtain ⟨o1, e5, rfl⟩ := Option.map_eq_some_iff.mp e4
    exact iteT (ha o1 e5 σ H1 _ (E.same s1) (cast_fin (t := fun _ _ _ => True) (f.mono (.of_same s1)) _))
  | false => exact iteF (hr o e4 σ H1 D (E.same s1) (f.mono (.of_same s1)))
/-- neither branch goes on -/
theorem db_ife {t : Expr} {a b : List Stmt} {mt : Option Bool} {ma mb : Option (Fl Empty B R)} {pos : Pos} (ht : DT X c Γ t mt) (ha : DB X c GE GB RK Γ a ma) (hb : DB X c GE GB RK Γ b mb) :
    DB X c GN GB RK Γ (.If t a b pos :: rest) ((iteO mt ma mb).map castFl) := fun o h σ H D E f => by
  obtain ⟨o1, e1, rfl⟩ := Option.map_eq_some_iff.mp h
  obtain ⟨x, e3, e4⟩ := Option.bind_eq_some_iff.mp e1
  refine sSs_cons (ps_if (pt_s t) (pss_s a) (pss_s b)) (ht x e3 σ H _ E fun H1 s1 => ?_)
  have f' := cast_fin (t := fun _ _ _ => True) (f.mono (.of_same s1)) (sSs X rest D)
  cases x with
  | true => exact iteT (ha o1 e4 σ H1 _ (E.same s1) f')
  | false => exact iteF (hb o1 e4 σ H1 _ (E.same s1) f')
variable {T : Type} {G : T → Env_}
theorem dbx_ifr {te : Expr} {a : List Stmt} {mt : T → Option (Bool × T)} {ma : Bool × T → Option (Fl Empty B R)} {mr : Bool × T → Option (Fl N B R)} {pos : Pos} {t : T} (ht : DXT X c G te mt) (ha : ∀ q : Bool × T, DB X c GE GB RK (G q.2) a (ma q)) (hr : ∀ q : Bool × T, DB X c GN GB RK (G q.2) rest (mr q)) :
    DB X c GN GB RK (G t) (.If te a [] pos :: rest) ((mt t).bind fun q => if q.1 then (ma q).map castFl else mr q) := fun o h σ H D E f => by
  obtain ⟨⟨x, t'⟩, e3, e4⟩ := Option.bind_eq_some_iff.mp h
  refine sSs_cons (ps_if (pt_s te) (pss_s a) pss_nil) (ht t x t' e3 σ H _ E fun H1 E1 s1 => ?_)
  cases x with
  | true =>
    obtain ⟨o1, e5, rfl⟩ := Option.map_eq_some_iff.mp e4
    exact iteT (ha (true, t') o1 e5 σ H1 _ E1 (cast_fin (t := fun _ _ _ => True) (f.mono (s1.mono E)) _))
  | false => exact iteF (hr (false, t') o e4 σ H1 D E1 (f.mono (s1.mono E)))
theorem dbx_ife {te : Expr} {a b : List Stmt} {mt : T → Option (Bool × T)} {ma mb : Bool × T → Option (Fl Empty B R)} {pos : Pos} {t : T} (ht : DXT X c G te mt) (ha : ∀ q : Bool × T, DB X c GE GB RK (G q.2) a (ma q)) (hb : ∀ q : Bool × T, DB X c GE GB RK (G q.2) b (mb q)) :
    DB X c GN GB RK (G t) (.If te a b pos :: rest) ((mt t).bind fun q => (if q.1 then ma q else mb q).map castFl) := fun o h σ H D E f => by
  obtain ⟨⟨x, t'⟩, e3, e4⟩ := Option.bind_eq_some_iff.mp h
  obtain ⟨o1, e5, rfl⟩ := Option.map_eq_some_iff.mp e4
  refine sSs_cons (ps_if (pt_s te) (pss_s a) (pss_s b)) (ht t x t' e3 σ H _ E fun H1 E1 s1 => ?_)
  have f' := cast_fin (t := fun _ _ _ => True) (f.mono (s1.mono E)) (sSs X rest D)
  cases x with
  | true => exact iteT (ha (true, t') o1 e5 σ H1 _ E1 f')
  | false => exact iteF (hb (false, t') o1 e5 σ H1 _ E1 f')
end
theorem u64 {k : Nat} {A : Around} (r : Room k A) : A.units + 64 < cLine := by have := r.un; omega
theorem u65 {k : Nat} {A : Around} (r : Room k A) : A.units + 65 < cLine := by have := r.un; omega
theorem u100 {k : Nat} {A : Around} (r : Room k A) : A.units + 100 < cLine := by have := r.un; omega
/-! slices -/
def dSlL (lo hi : Option Int) : D → Option (List D)
  | .list ds => some (cutD ds lo hi)
  | _ => none
def dSl (lo hi : Option Int) : D → Option D
  | .tuple ds => some (.tuple (cutD ds lo hi))
  | .list ds => some (.list (cutD ds lo hi))
  | _ => none
def slF (m : Option D) (lo hi : Option (Option Int)) : Option (List D) := m.bind fun x => lo.bind fun l => hi.bind fun h => dSlL l h x
section
variable {X : Cx} {c : FC} {Γ : Env_}
theorem df_sl {a : Expr} {lo hi : Option Expr} {ma : Option D} {ml mh : Option (Option Int)} {pos p2 : Pos} (ha : DW X c Γ a ma) (hl : DP X c Γ lo ml) (hh : DP X c Γ hi mh) : DF X c Γ (.Subscript a (.Slice lo hi none p2) pos) (slF ma ml mh) := fun d hd σ H Q E k => by
  refine df_slL ha hl hh d ?_ σ H Q E k
  obtain ⟨x, e1, e2⟩ := Option.bind_eq_some_iff.mp hd
  obtain ⟨l, e3, e4⟩ := Option.bind_eq_some_iff.mp e2
  obtain ⟨h, e5, e6⟩ := Option.bind_eq_some_iff.mp e4
  rw [e1, e3, e5]
  cases x <;> first | exact e6 | cases e6
theorem de_sl {a : Expr} {lo hi : Option Expr} {ma : Option D} {ml mh : Option (Option Int)} {pos p2 : Pos} (ha : DE X c Γ a ma) (hl : DP X c Γ lo ml) (hh : DP X c Γ hi mh) : DE X c Γ (.Subscript a (.Slice lo hi none p2) pos) (slO dSl ma ml mh) := fun d hd σ H Q E k => by
  obtain ⟨x, e1, e2⟩ := Option.bind_eq_some_iff.mp hd
  obtain ⟨l, e3, e4⟩ := Option.bind_eq_some_iff.mp e2
  obtain ⟨h, e5, e6⟩ := Option.bind_eq_some_iff.mp e4
  cases x with
  | tuple ds => exact de_slT ha hl hh d (by unfold slO; rw [e1, e3, e5]; exact e6) σ H Q E k
  | list ds => exact DF.e (df_sl ha.w hl hh) d (by unfold slF; rw [e1, e3, e5]; exact e6) σ H Q E k
  | _ => cases e6
variable {T : Type} {G : T → Env_}
inductive DXP (X : Cx) (c : FC) {T : Type} (G : T → Env_) : Option Expr → (T → Option (Option Int × T)) → Prop
  | no : DXP X c G none (fun t => some (none, t))
  | yes {e : Expr} {m : T → Option (D × T)} (h : DX X c G e m) : DXP X c G (some e) (bindX m fun d => (isI d).map some)
theorem DXP.run {e : Option Expr} {m : T → Option (Option Int × T)} (h : DXP X c G e m) {t t' : T} {o : Option Int} (ho : m t = some (o, t')) {σ : St} {H : Hp} {Q : Option Int → Hp → Prop} (E : EnvOk X.K c σ H (G t)) (k : ∀ H', EnvOk X.K c σ H' (G t') → Step (G t) (G t') σ H H' → Q o H') : sO X e σ H Q := by
  cases h with
  | no =>
    cases ho
    exact k H E (.refl E)
  | yes h =>
    obtain ⟨d, e1, e2⟩ := bindX_eq ho
    obtain ⟨i, e3, rfl⟩ := Option.map_eq_some_iff.mp e2
    have e4 := isI_eq e3
    subst e4
    exact h t _ t' e1 σ H _ E fun v H' E' s r => ⟨i, RpW.int (.st r), k H' E' s⟩
def slX (g : Option Int → Option Int → D → Option D) (a : T → Option (D × T)) (lo hi : T → Option (Option Int × T)) : T → Option (D × T) := fun t => (a t).bind fun p => (lo p.2).bind fun l => (hi l.2).bind fun h => (g l.1 h.1 p.1).map fun z => (z, h.2)
theorem dx_slT {a : Expr} {lo hi : Option Expr} {ma : T → Option (D × T)} {ml mh : T → Option (Option Int × T)} {pos p2 : Pos} (ha : DX X c G a ma) (hl : DXP X c G lo ml) (hh : DXP X c G hi mh) : DX X c G (.Subscript a (.Slice lo hi none p2) pos) (slX dSlT ma ml mh) := fun t d t' hd σ H Q E k => by
  obtain ⟨⟨x, t1⟩, e1, e2⟩ := Option.bind_eq_some_iff.mp hd
  obtain ⟨⟨l, t2⟩, e3, e4⟩ := Option.bind_eq_some_iff.mp e2
  obtain ⟨⟨h, t3⟩, e5, e6⟩ := Option.bind_eq_some_iff.mp e4
  obtain ⟨z, e7, e8⟩ := Option.map_eq_some_iff.mp e6
  cases e8
  replace e7 : dSlT l h x = some d := e7
  unfold dSlT at e7
  split at e7
  · cases e7
    refine sE_of (pe_slice sl_tupA' (pe_s a) (po_s lo) (po_s hi)) ?_
    refine ha t _ t1 e1 σ H _ E fun v H1 E1 s1 r1 => hl.run e3 E1 fun H2 E2 s2 => hh.run e5 E2 fun H3 E3 s3 => ?_
    obtain ⟨b, xs, rfl, hq, r⟩ := RpW.tupleP (.st r1)
    have m23 : Mono H1 H3 := (s2.mono E1).trans (s3.mono E2)
    have r' := r.mono m23
    have st := (s1.trans s2).trans s3
    refine ⟨b, xs, rfl, (m23.pt hq).sq, fun hw => ?_, fun hw p u hp hu => ?_⟩
    · rw [r.length] at hw
      exact k _ H3 E3 st (by
        rw [cutD_whole hw]
        exact .tup (m23.pt hq) r')
    · exact k _ _ (E3.same (Same.new hp)) (st.trans (.of_same E3 (Same.new hp))) (.tup (.of hu upd_same) ((r'.cut l h).mono (.of_same (Same.new hp))))
  · cases e7
end
/-! a + b -/
theorem op_catL {X : Cx} : OpR X (binaryOp .Add) (fun x y H Q => ∃ l b xs zs, x = .ref l ∧ y = .ref b ∧ SqL X.K H l xs ∧ SqL X.K H b zs ∧ xs.length + zs.length ≤ sizeLine ∧ ∀ p, H p = none → Q (.ref p) (upd H p (.lst (xs ++ zs)))) := by
  intro pins s σ H x y v u Q I rx ry h
  obtain ⟨l, b, xs, zs, rfl, rfl, h1, h2, hz, q⟩ := h
  cases rx
  cases ry
  obtain ⟨its, rv, p, _⟩ := I.list h1
  obtain ⟨its2, rv2, p2, _⟩ := I.list h2
  obtain ⟨⟨c1, d1, t1, s1⟩, e1, ec, n, ed⟩ := id p.isList
  obtain ⟨⟨c2, d2, t2, s2⟩, e2, ec2, n2, ed2⟩ := id p2.isList
  simp only at ec ed ec2 ed2
  subst ec ed ec2 ed2
  have ea : its.toArray ++ its2.toArray = (its ++ its2).toArray := by simp
  refine concat_meets ⟨_, e1, rfl⟩ ⟨_, e2, rfl⟩ noFill_list_add seq_list_add PySem.F.slot_list_add PySem.F.entry_list_add (PySem.F.args_list_add_2 _ _) (list_addW l b its.toArray its2.toArray n n2 d1 d2 s1 s2 (by rw [List.size_toArray, List.size_toArray, ← rv.length, ← rv2.length]; exact hz)) ⟨e1, e2, ?_⟩
  rw [ea]
  exact ⟨.ref _, _, I.lnew (t' := s.toks) (rv.append rv2) (by rw [List.length_append]; exact hz), rfl, q _ I.fresh⟩
def dPlusL : D → D → Option (List D)
  | .list a, .list b => if a.length + b.length ≤ 100000 then some (a ++ b) else none
  | _, _ => none
def dPlus : D → D → Option D
  | .list a, .list b => if a.length + b.length ≤ 100000 then some (.list (a ++ b)) else none
  | x, y => dAdd x y
def plusF (a b : Option D) : Option (List D) := a.bind fun x => b.bind fun y => dPlusL x y
section
variable {X : Cx} {c : FC} {Γ : Env_}
theorem df_plus {a b : Expr} {ma mb : Option D} {pos : Pos} (ha : DW X c Γ a ma) (hb : DW X c Γ b mb) : DF X c Γ (.BinOp a .Add b pos) (plusF ma mb) := fun d hd σ H Q E k => by
  obtain ⟨x, e1, e2⟩ := Option.bind_eq_some_iff.mp hd
  obtain ⟨y, e3, e4⟩ := Option.bind_eq_some_iff.mp e2
  unfold dPlusL at e4
  split at e4
  · split at e4
    · rename_i hl
      cases e4
      refine sE_of (pe_op op_catL (pe_s a) (pe_s b)) (ha _ e1 σ H _ E fun v H1 s1 r1 => hb _ e3 σ H1 _ (E.same s1) fun u H2 s2 r2 => ?_)
      obtain ⟨p, xs, rfl, hp, q1⟩ := (r1.same s2).list
      obtain ⟨q, ys, rfl, hq, q2⟩ := r2.list
      refine ⟨p, q, xs, ys, rfl, rfl, hp, hq, by rw [q1.length, q2.length]; exact Nat.le_trans hl (by decide), fun z hz => ?_⟩
      exact k z _ _ ((s1.trans s2).free hz) ((s1.trans s2).trans (Same.new hz)) upd_same ((q1.append q2).mono (.of_same (Same.new hz)))
    · cases e4
  · cases e4
theorem dPlus_cases {x y d : D} (h : dPlus x y = some d) : (∃ ds, dPlusL x y = some ds ∧ d = .list ds) ∨ dAdd x y = some d := by
  unfold dPlus at h
  split at h
  · split at h
    · rename_i hl
      cases h
      exact .inl ⟨_, if_pos hl, rfl⟩
    · cases h
  · exact .inr h
theorem de_plus {a b : Expr} {ma mb : Option D} {pos : Pos} (ha : DW X c Γ a ma) (hb : DW X c Γ b mb) : DE X c Γ (.BinOp a .Add b pos) (bin dPlus ma mb) := fun d hd σ H Q E k => by
  obtain ⟨x, e1, e2⟩ := Option.bind_eq_some_iff.mp hd
  obtain ⟨y, e3, e4⟩ := Option.bind_eq_some_iff.mp e2
  rcases dPlus_cases e4 with ⟨ds, e5, rfl⟩ | e5
  · exact DF.e (df_plus ha hb) _ (by unfold plusF; rw [e1, Option.bind_some, e3, Option.bind_some, e5]; rfl) σ H Q E k
  · exact de_op od_add ha hb d (by unfold bin; rw [e1, Option.bind_some, e3, Option.bind_some, e5]) σ H Q E k
variable {T : Type} {G : T → Env_}
def plusXF (a b : T → Option (D × T)) : T → Option (List D × T) := fun t => (a t).bind fun p => (b p.2).bind fun q => (dPlusL p.1 q.1).map fun z => (z, q.2)
theorem dxf_plus {a b : Expr} {ma mb : T → Option (D × T)} {pos : Pos} (ha : DX X c G a ma) (hb : DX X c G b mb) : DXF X c G (.BinOp a .Add b pos) (plusXF ma mb) := fun t d t' hd σ H Q E k => by
  obtain ⟨⟨x, t1⟩, e1, e2⟩ := Option.bind_eq_some_iff.mp hd
  obtain ⟨⟨y, t2⟩, e3, e4⟩ := Option.bind_eq_some_iff.mp e2
  obtain ⟨z, e5, e6⟩ := Option.map_eq_some_iff.mp e4
  cases e6
  replace e5 : dPlusL x y = some d := e5
  unfold dPlusL at e5
  split at e5
  · split at e5
    · rename_i hl
      cases e5
      refine sE_of (pe_op op_catL (pe_s a) (pe_s b)) (ha t _ t1 e1 σ H _ E fun v H1 E1 s1 r1 => hb t1 _ _ e3 σ H1 _ E1 fun u H2 E2 s2 r2 => ?_)
      obtain ⟨p, xs, rfl, hp, q1⟩ := RpW.list (.st (r1.mono (s2.mono E1)))
      obtain ⟨q, ys, rfl, hq, q2⟩ := RpW.list (.st r2)
      refine ⟨p, q, xs, ys, rfl, rfl, hp, hq, by rw [q1.length, q2.length]; exact Nat.le_trans hl (by decide), fun z hz => ?_⟩
      exact k z _ _ ((s1.trans s2).free E hz) (E2.same (Same.new hz)) ((s1.trans s2).trans (.of_same E2 (Same.new hz))) upd_same ((q1.append q2).mono (.of_same (Same.new hz)))
    · cases e5
  · cases e5
theorem dx_plus {a b : Expr} {ma mb : T → Option (D × T)} {pos : Pos} (ha : DX X c G a ma) (hb : DX X c G b mb) : DX X c G (.BinOp a .Add b pos) (binX dPlus ma mb) := fun t d t' hd σ H Q E k => by
  obtain ⟨⟨x, t1⟩, e1, e2⟩ := Option.bind_eq_some_iff.mp hd
  obtain ⟨⟨y, t2⟩, e3, e4⟩ := Option.bind_eq_some_iff.mp e2
  obtain ⟨z, e5, e6⟩ := Option.map_eq_some_iff.mp e4
  cases e6
  rcases dPlus_cases e5 with ⟨ds, e7, rfl⟩ | e7
  · exact dxf_frz (dxf_plus ha hb) t _ _ (by show ((plusXF ma mb) t).map _ = _; unfold plusXF; rw [e1, Option.bind_some, e3, Option.bind_some, e7]; rfl) σ H Q E k
  · exact dx_op od_add ha hb t _ _ (by show ((ma t).bind _) = _; rw [e1, Option.bind_some, e3, Option.bind_some, e7]; rfl) σ H Q E k
end
end DL

set_option Elab.async false
set_option linter.all false
set_option maxRecDepth 100000
set_option maxHeartbeats 2000000
set_option autoImplicit false
namespace DL
open PySem PySem.Spec PyProof.Rows L2
/-! ### a law's end: the script handed to its def -/
theorem frz_only {K : Fr_} {H : Hp} {a : Addr} {xs : List V} (o : Only H) (h : SqL K H a xs) : Fz K H a xs := by
  rcases h with (h | h) | h
  · rcases o a with z | ⟨ob, ys, z⟩
    · rw [h] at z
      cases z
    · rw [h] at z
      cases z
  · exact .inl h
  · exact .inr (.inr h)
theorem ints_rp {K : Fr_} {H : Hp} : ∀ ns : List Int, RpA K H (ns.map V.int) (ns.map PyData.int)
  | [] => .nil
  | n :: r => .cons (.int n) (ints_rp r)
section
variable {P : Program} {w : World} {K : Fr_} {mg mb : Str → Option Value} {k : Nat} {x : Str} {a fa : Addr} {s₁ : Shared} {vs : List Value} {ns : List Int} {g : List D → Option D}
theorem end_core {H : Hp} (KX : K.In s₁.heap) (hns : s₁.heap.Ns mainGlobals mg) (hb : s₁.heap.Ns builtinsNs mb) (hbb : ∀ y : Str, y ≠ "__name__" → mb y = bootBuiltins y) (hlim : s₁.heap.NoLimit) (hgen : s₁.gens = #[])
    (ha : s₁.heap.get? a = some { cls := .type "list", data := .seq vs.toArray }) (room : Room k callerA) (hf : mg x = some (.ref fa)) (F : ∀ base : Heap, K.In base → base.Ns mainGlobals mg → CalG P w K mg base k x (spP K g)) (hg : g [.list (ns.map .int)] = some (.bool true))
    (hO : Only H) (hS : SqL K H a (ns.map V.int)) (hok : HOk P w H s₁.heap) (hA : ∀ b, H b ≠ none → b = a) (hK : H a ≠ none → K.lookup a = none) :
    codeAny (model P w) callerA (.call (.ref fa) ⟨[.ref a], []⟩) (fun r s' => r = .ok (.ret (.bool true)) ∧ OldK s₁.heap s'.heap ∧ s'.os = s₁.os ∧ AllBare s'.gens) s₁ := by
  have toT : ∀ {b : Addr} {o : Obj}, s₁.heap.get? b = some o → H b = none → (hidT s₁.heap H).get? b = some o := fun h1 h2 => hidT_get h1 h2
  have dictN : ∀ {b : Addr} {o : Obj} {es : Array DictEntry} {ep : Nat}, s₁.heap.get? b = some o → o.data = .dict es ep → H b = none := by
    intro b o es ep h1 h2
    by_cases hb : H b = none
    · exact hb
    · have eb := hA b hb
      rw [eb, ha] at h1
      cases h1
      have z : Data.seq vs.toArray _ = Data.dict es ep := h2
      cases z
  have nsT : ∀ {b : Addr} {m : Str → Option Value}, s₁.heap.Ns b m → (hidT s₁.heap H).Ns b m := by
    rintro b m ⟨o, es, ep, h1, h2, h3⟩
    exact ⟨o, es, ep, toT h1 (dictN h1 h2), h2, h3⟩
  have inT : K.In (hidT s₁.heap H) := by
    intro b o h1
    refine toT (KX b o h1) ?_
    by_cases hb : H b = none
    · exact hb
    · have eb := hA b hb
      subst eb
      rw [hK hb] at h1
      cases h1
  have md : Mod K mg (hidT s₁.heap H) := by
    obtain ⟨mc, m1, m2⟩ := hlim
    exact ⟨inT, nsT hns, ⟨mb, nsT hb, hbb⟩, mc, nsT m1, m2⟩
  have env : Env0 P w K mg (hidT s₁.heap H) callerA [] s₁ H := ⟨rfl, md, fun b o h => of_hidT h, Nat.le_of_eq (hidT_size _ _), trivial, fun b hb => (by cases (show b ∈ ([] : List Addr) from hb)), hok, .of_eq hgen⟩
  obtain ⟨f, fd, ps, FF, hm, _, hbd⟩ := (F _ inT (nsT hns)).ex
  have ef : f = fa := by
    rw [hf] at hm
    cases hm
    rfl
  subst ef
  have sp : spP K g [.ref a] H (fun v _ => v = .bl true) := ⟨[.list (ns.map .int)], .bool true, .cons (.lst (frz_only hO hS) (ints_rp ns)) .nil, hg, fun v H' _ r => RpW.bool (.st r)⟩
  have hl : ([Value.ref a] ++ []).length = ps.length := FF.many sp
  have bt := hbd s₁ [.ref a] KX hl
  refine codeAny_mono (FF.runs (args := ⟨[.ref a], []⟩) room rfl env bt (.cons (show RelV (.ref a) (.ref a) from rfl) .nil) sp) fun r s' h => ?_
  match r, h with
  | .ok (.ret u), ⟨v, H', os, bare, un, hok', r', q⟩ =>
    have q' : v = .bl true := q
    subst q'
    obtain rfl : u = Value.bool true := r'
    refine ⟨rfl, OldK.of_keep fun b o e => ?_, os, bare⟩
    rcases hO b with hb | ⟨ob, xs, hb⟩
    · exact un.keep b o e hb (fun z => by cases (show b ∈ ([] : List Addr) from z)) (by simp)
    · have z2 := un.frzs b ob _ hb
      obtain ⟨e1, _⟩ := hok b _ hb
      obtain ⟨e2, _⟩ := hok' b _ z2
      rw [e] at e1
      cases e1
      exact e2
theorem end_call (KX : K.In s₁.heap) (hns : s₁.heap.Ns mainGlobals mg) (hb : s₁.heap.Ns builtinsNs mb) (hbb : ∀ y : Str, y ≠ "__name__" → mb y = bootBuiltins y) (hlim : s₁.heap.NoLimit) (hgen : s₁.gens = #[])
    (ha : s₁.heap.get? a = some { cls := .type "list", data := .seq vs.toArray }) (hi : IntsAre vs ns) (hl : ns.length ≤ sizeLine) (room : Room k callerA) (hf : mg x = some (.ref fa)) (F : ∀ base : Heap, K.In base → base.Ns mainGlobals mg → CalG P w K mg base k x (spP K g)) (hg : g [.list (ns.map .int)] = some (.bool true)) :
    codeAny (model P w) callerA (.call (.ref fa) ⟨[.ref a], []⟩) (fun r s' => r = .ok (.ret (.bool true)) ∧ OldK s₁.heap s'.heap ∧ s'.os = s₁.os ∧ AllBare s'.gens) s₁ := by
  have rv := vals_ints hi
  by_cases hk : K.lookup a = none
  · generalize hH : (fun b : Addr => if b = a then some (HO.frz { cls := .type "list", data := .seq vs.toArray } (.lst (ns.map V.int))) else none) = H
    have at_a : H a = some (HO.frz { cls := .type "list", data := .seq vs.toArray } (.lst (ns.map V.int))) := by
      rw [← hH]
      exact if_pos rfl
    have off_a : ∀ b, b ≠ a → H b = none := fun b hb => by
      rw [← hH]
      exact if_neg hb
    refine end_core (H := H) KX hns hb hbb hlim hgen ha room hf F hg (fun b => ?_) (.inl (.inr ⟨_, at_a⟩)) (fun b u hu => ?_) (fun b hb => ?_) fun _ => hk
    · by_cases e : b = a
      · rw [e]
        exact .inr ⟨_, _, at_a⟩
      · exact .inl (off_a b e)
    · by_cases e : b = a
      · rw [e] at hu ⊢
        rw [at_a] at hu
        cases hu
        exact ⟨ha, by rw [List.length_map]; exact hl, vs, _, rv, ha⟩
      · rw [off_a b e] at hu
        cases hu
    · by_cases e : b = a
      · exact e
      · exact absurd (off_a b e) hb
  · obtain ⟨o, ho⟩ := Option.ne_none_iff_exists'.mp hk
    have e := KX a o ho
    rw [ha] at e
    cases e
    refine end_core (H := fun _ => none) KX hns hb hbb hlim hgen ha room hf F hg (fun _ => .inl rfl) (.inr ⟨_, vs.toArray, _, ho, rfl, rfl, rfl, by rw [List.size_toArray, hi.length]; exact hl, by simpa using rv⟩) (fun b u hu => ?_) (fun b hb => absurd rfl hb) fun hb => absurd rfl hb
    have z : (none : Option HO) = some u := hu
    cases z
end
/-- the goal of the head: the def's promise, its answer at every script -/
theorem walk_end {l : PySem.W.OpenLaw} {n k : Nat} {q : Program} {loose : List Str} {XP : (Str → Option Value) → Heap → Prop} {YP : World → Heap → Prop} {d : DefRec} {g : List D → Option D} {x : Str} (hn : l.most = some n) (hn2 : n ≤ sizeLine) (hdf : d.params.defaults = []) (room : Room k callerA) (hx : d.name = x)
    (F : ∀ (w : World) (mg : Str → Option Value) (h : Heap), YP w h → h.Ns mainGlobals mg → ∃ K : PySem.W.Frag, K.In h ∧ ∀ base : Heap, K.In base → base.Ns mainGlobals mg → CalG l.prog w K mg base k x (spP K g))
    (hg : ∀ ns : List Int, ns.length ≤ n → g [.list (ns.map .int)] = some (.bool true)) : PySem.W.WalkO q loose XP YP l.row.toRowW d [] (fun f vs => PySem.call f vs) := by
  refine Att.attach_call hn hdf fun w s₀ s₁ mg mb fa o pm cd doc a vs ns G Y ho hd hcd hmg hobj hints hlen hgen => ?_
  obtain ⟨K, KX, FF⟩ := F w mg _ Y G.T.g
  rw [hx] at hmg
  exact end_call KX G.T.g G.T.b G.T.builtins G.T.nolimit hgen hobj hints (Nat.le_trans hlen hn2) room hmg FF (hg ns hlen)
end DL

set_option Elab.async false
set_option linter.all false
set_option maxRecDepth 100000
set_option maxHeartbeats 2000000
set_option autoImplicit false
namespace DL
open PySem PySem.Spec PyProof.Rows L2
/-! ### plain facts about the mirrors' parts -/
@[simp] theorem consO_s (x : D) (xs : List D) : consO (some x) (some xs) = some (x :: xs) := rfl
@[simp] theorem bin_s (g : D → D → Option D) (x y : D) : bin g (some x) (some y) = g x y := rfl
@[simp] theorem lenOk_s {xs : List D} (h : xs.length ≤ 100000) : lenOk (some xs) = some xs := if_pos h
@[simp] theorem andV_t (m : Option D) : andV (some (.bool true)) m = m := rfl
@[simp] theorem andV_f (m : Option D) : andV (some (.bool false)) m = some (.bool false) := rfl
@[simp] theorem orV_t (m : Option D) : orV (some (.bool true)) m = some (.bool true) := rfl
@[simp] theorem orV_f (m : Option D) : orV (some (.bool false)) m = m := rfl
theorem andV_b (a b : Bool) : andV (some (.bool a)) (some (.bool b)) = some (.bool (a && b)) := by cases a <;> rfl
theorem orV_b (a b : Bool) : orV (some (.bool a)) (some (.bool b)) = some (.bool (a || b)) := by cases a <;> rfl
@[simp] theorem notV_s (a : Bool) : notV (some (.bool a)) = some (.bool (!a)) := rfl
@[simp] theorem andT_t (m : Option Bool) : andT (some true) m = m := rfl
@[simp] theorem andT_f (m : Option Bool) : andT (some false) m = some false := rfl
@[simp] theorem orT_t (m : Option Bool) : orT (some true) m = some true := rfl
@[simp] theorem orT_f (m : Option Bool) : orT (some false) m = m := rfl
theorem andT_b (a b : Bool) : andT (some a) (some b) = some (a && b) := by cases a <;> rfl
theorem orT_b (a b : Bool) : orT (some a) (some b) = some (a || b) := by cases a <;> rfl
@[simp] theorem iteO_t {α : Type} (a b : Option α) : iteO (some true) a b = a := rfl
@[simp] theorem iteO_f {α : Type} (a b : Option α) : iteO (some false) a b = b := rfl
theorem iteO_b {α : Type} (t : Bool) (a b : Option α) : iteO (some t) a b = if t then a else b := rfl
@[simp] theorem isB_s (b : Bool) : isB (.bool b) = some b := rfl
@[simp] theorem isI_s (b : Int) : isI (.int b) = some b := rfl
@[simp] theorem finP_rt (d : D) : finP (.rt d) = some d := rfl
@[simp] theorem finP_nx (u : Unit) : finP (.nx u) = some .none := rfl
@[simp] theorem finF_rt (d : List D) : finF (.rt d) = some d := rfl
@[simp] theorem finM_rt (d : D × List D) : finM (.rt d) = some d := rfl
@[simp] theorem finM_nx (d : List D) : finM (.nx d) = some (.none, d) := rfl
@[simp] theorem finMF_rt (d : List D × List D) : finMF (.rt d) = some d := rfl
@[simp] theorem cast_rt {N B R : Type} (r : R) : castFl (N := N) (B := B) (.rt r) = .rt r := rfl
@[simp] theorem cast_bk {N B R : Type} (r : B) : castFl (N := N) (R := R) (.bk r) = .bk r := rfl
@[simp] theorem cast_ct {N B R : Type} (r : B) : castFl (N := N) (R := R) (.ct r) = .ct r := rfl
@[simp] theorem seqFl_nx {N1 N B R : Type} (mr : N1 → Option (Fl N B R)) (n : N1) : seqFl mr (.nx n) = mr n := rfl
@[simp] theorem seqFl_rt {N1 N B R : Type} (mr : N1 → Option (Fl N B R)) (n : R) : seqFl mr (.rt n) = some (.rt n) := rfl
@[simp] theorem seqFl_bk {N1 N B R : Type} (mr : N1 → Option (Fl N B R)) (n : B) : seqFl mr (.bk n) = some (.bk n) := rfl
@[simp] theorem seqFl_ct {N1 N B R : Type} (mr : N1 → Option (Fl N B R)) (n : B) : seqFl mr (.ct n) = some (.ct n) := rfl
@[simp] theorem seqLp_nx {L N B R : Type} (mr : L → Option (Fl N B R)) (n : L) : seqLp mr (.nx n) = mr n := rfl
@[simp] theorem seqLp_rt {L N B R : Type} (mr : L → Option (Fl N B R)) (n : R) : seqLp mr (.rt n) = some (.rt n) := rfl
@[simp] theorem forF_nil {L R : Type} (f : L → D → Option (Fl L L R)) (l : L) : forF f [] l = some (.nx l) := rfl
theorem forF_cons {L R : Type} (f : L → D → Option (Fl L L R)) (x : D) (r : List D) (l : L) : forF f (x :: r) l = (f l x).bind fun o => match o with | .nx l' => forF f r l' | .ct l' => forF f r l' | .bk l' => some (.nx l') | .rt z => some (.rt z) := rfl
@[simp] theorem un2_s {P Q : Type} (p1 : D → Option P) (p2 : D → Option Q) (a b : D) : un2 p1 p2 (.tuple [a, b]) = (p1 a).bind fun u => (p2 b).map fun w => (u, w) := rfl
@[simp] theorem un3_s {P Q R : Type} (p1 : D → Option P) (p2 : D → Option Q) (p3 : D → Option R) (a b c : D) : un3 p1 p2 p3 (.tuple [a, b, c]) = (p1 a).bind fun u => (p2 b).bind fun w => (p3 c).map fun z => (u, w, z) := rfl
@[simp] theorem iterD_l (ds : List D) : iterD (.list ds) = some ds := rfl
@[simp] theorem iterD_t (ds : List D) : iterD (.tuple ds) = some ds := rfl
@[simp] theorem dAdd_ii (a b : Int) : dAdd (.int a) (.int b) = some (.int (a + b)) := rfl
@[simp] theorem dSub_ii (a b : Int) : dSub (.int a) (.int b) = some (.int (a - b)) := rfl
@[simp] theorem dNeg_i (a : Int) : dNeg (.int a) = some (.int (-a)) := rfl
theorem fitsM_of {a : Int} (h : a.natAbs < 2 ^ 1000) : fitsM a = true := cl_iff.mpr h
theorem p60 : (2 : Nat) ^ 60 ≤ 2 ^ 1000 := Nat.pow_le_pow_right (by decide) (by decide)
theorem fitsM_60 {a : Int} (h : a.natAbs < 2 ^ 60) : fitsM a = true := cl_iff.mpr (Nat.lt_of_lt_of_le h p60)
theorem dMul_ii {a b : Int} (ha : a.natAbs < 2 ^ 1000) (hb : b.natAbs < 2 ^ 1000) : dMul (.int a) (.int b) = some (.int (a * b)) := if_pos (show (fitsM a && fitsM b) = true by rw [fitsM_of ha, fitsM_of hb]; rfl)
theorem dMul_60 {a b : Int} (ha : a.natAbs < 2 ^ 60) (hb : b.natAbs < 2 ^ 60) : dMul (.int a) (.int b) = some (.int (a * b)) := dMul_ii (Nat.lt_of_lt_of_le ha p60) (Nat.lt_of_lt_of_le hb p60)
theorem dFdiv_ii {a b : Int} (h : 0 < b) (hb : b.natAbs < 2 ^ 1000) : dFdiv (.int a) (.int b) = some (.int (a / b)) := if_pos (show (decide (0 < b) && fitsM b) = true by rw [fitsM_of hb, decide_eq_true h]; rfl)
theorem dMod_ii {a b : Int} (h : 0 < b) : dMod (.int a) (.int b) = some (.int (a % b)) := if_pos h
theorem dPow_ii {a : Int} {n : Nat} (h : n ≤ 1000) (ha : a.natAbs < 2 ^ 1000) : dPow (.int a) (.int (n : Int)) = some (.int (a ^ n)) :=
  if_pos (show ((cl (0 ≤ (n : Int)) && cl ((n : Int) ≤ 1000)) && fitsM a) = true by rw [fitsM_of ha, cl_iff.mpr (show (0 : Int) ≤ (n : Int) from Int.natCast_nonneg n), cl_iff.mpr (show (n : Int) ≤ 1000 by omega)]; rfl)
/-! comparisons -/
theorem lt_int (a b : Int) : PySem.W.dataLt (.int a) (.int b) = decide (a < b) := PySem.W.dataLt_int a b
theorem ordOk_ii (a b : Int) : ordOk (.int a) (.int b) = true := rfl
@[simp] theorem dLt_ii (a b : Int) : dLt (.int a) (.int b) = some (.bool (decide (a < b))) := by unfold dLt; rw [ordOk_ii, if_pos rfl, lt_int]
@[simp] theorem dLe_ii (a b : Int) : dLe (.int a) (.int b) = some (.bool (decide (a ≤ b))) := by
  unfold dLe
  rw [ordOk_ii, if_pos rfl, lt_int]
  congr 2
  by_cases h : a ≤ b
  · rw [decide_eq_true h, decide_eq_false (by omega)]
    rfl
  · rw [decide_eq_false h, decide_eq_true (by omega)]
    rfl
@[simp] theorem dGt_ii (a b : Int) : dGt (.int a) (.int b) = some (.bool (decide (b < a))) := by unfold dGt; rw [ordOk_ii, if_pos rfl, lt_int]
@[simp] theorem dGe_ii (a b : Int) : dGe (.int a) (.int b) = some (.bool (decide (b ≤ a))) := by
  unfold dGe
  rw [ordOk_ii, if_pos rfl, lt_int]
  congr 2
  by_cases h : b ≤ a
  · rw [decide_eq_true h, decide_eq_false (by omega)]
    rfl
  · rw [decide_eq_false h, decide_eq_true (by omega)]
    rfl
theorem eqv_ii (a b : Int) : PyData.eqv (.int a) (.int b) = decide (a = b) := by
  rw [PyData.eqv]
  by_cases h : a = b
  · simp [h]
  · simp [h]
@[simp] theorem dEq_ii (a b : Int) : dEq (.int a) (.int b) = some (.bool (decide (a = b))) := (if_pos rfl).trans (by rw [eqv_ii])
@[simp] theorem dNe_ii (a b : Int) : dNe (.int a) (.int b) = some (.bool (!decide (a = b))) := (if_pos rfl).trans (by rw [eqv_ii])
theorem eqv_ss (a b : Str) : PyData.eqv (.str a) (.str b) = decide (a = b) := by
  rw [PyData.eqv]
  by_cases h : a = b
  · simp [h]
  · simp [h]
@[simp] theorem dEq_ss (a b : Str) : dEq (.str a) (.str b) = some (.bool (decide (a = b))) := (if_pos rfl).trans (by rw [eqv_ss])
@[simp] theorem dNe_ss (a b : Str) : dNe (.str a) (.str b) = some (.bool (!decide (a = b))) := (if_pos rfl).trans (by rw [eqv_ss])
@[simp] theorem dEq_bb (a b : Bool) : dEq (.bool a) (.bool b) = some (.bool (a == b)) := (if_pos rfl).trans (by rw [PyData.eqv])
@[simp] theorem dNe_bb (a b : Bool) : dNe (.bool a) (.bool b) = some (.bool (!(a == b))) := (if_pos rfl).trans (by rw [PyData.eqv])
/-! ### data without dicts, small leaves -/
mutual
/-- ints below 10 ^ 18, plain texts -/
def nice : D → Bool
  | .none => true
  | .bool _ => true
  | .int i => decide (i.natAbs < 10 ^ 18)
  | .str x => PyData.strOk x && x.cps.toList.all fun c => decide (c < 16 ^ 8)
  | .list xs => niceAll xs
  | .tuple xs => niceAll xs
  | .dict _ => false
def niceAll : List D → Bool
  | [] => true
  | x :: xs => nice x && niceAll xs
end
theorem niceAll_iff {xs : List D} : niceAll xs = true ↔ ∀ x ∈ xs, nice x = true := by
  induction xs with
  | nil => simp [niceAll]
  | cons x r ih => simp [niceAll, ih]
theorem log_of {i : Int} (h : i.natAbs < 10 ^ 18) : i.natAbs.log2 < 1920 := by
  by_cases h0 : i.natAbs = 0
  · rw [h0]
    decide
  · exact (Nat.log2_lt h0).mpr (Nat.lt_of_lt_of_le h (Nat.le_trans (by decide : (10 : Nat) ^ 18 ≤ 2 ^ 60) (Nat.pow_le_pow_right (by decide) (by decide))))
mutual
theorem nice_show : ∀ d : D, nice d = true → d.showable = true ∧ d.hasDict = false ∧ d.leavesShort 19 = true ∧ d.canLay0 = true
  | .none, _ => ⟨rfl, rfl, rfl, rfl⟩
  | .bool _, _ => ⟨rfl, rfl, rfl, rfl⟩
  | .int i, h => by
    have h' : i.natAbs < 10 ^ 18 := of_decide_eq_true h
    refine ⟨decide_eq_true (log_of h'), rfl, decide_eq_true ?_, rfl⟩
    have q := int_text_length_le10 (a := i) (k := 18) (by decide) h'
    show (Str.ofString (toString i)).length ≤ 19
    rw [PySem.ofString_length]
    exact q
  | .str x, h => by
    obtain ⟨h1, h2⟩ := Bool.and_eq_true_iff.mp h
    exact ⟨rfl, rfl, h2, h1⟩
  | .list xs, h => niceAll_show xs h
  | .tuple xs, h => niceAll_show xs h
  | .dict _, h => by cases h
theorem niceAll_show : ∀ xs : List D, niceAll xs = true → PyData.showableAll xs = true ∧ PyData.hasDictAll xs = false ∧ PyData.leavesShortAll 19 xs = true ∧ PyData.canLayAll0 xs = true
  | [], _ => ⟨rfl, rfl, rfl, rfl⟩
  | x :: xs, h => by
    obtain ⟨h1, h2⟩ := Bool.and_eq_true_iff.mp h
    obtain ⟨a1, a2, a3, a4⟩ := nice_show x h1
    obtain ⟨b1, b2, b3, b4⟩ := niceAll_show xs h2
    refine ⟨?_, ?_, ?_, ?_⟩
    · rw [PyData.showableAll, a1, b1]; rfl
    · rw [PyData.hasDictAll, a2, b2]; rfl
    · rw [PyData.leavesShortAll, a3, b3]; rfl
    · rw [PyData.canLayAll0, a4, b4]; rfl
end
theorem repr_nice {d : D} (h : nice d = true) (hd : d.depth ≤ 64) (hb : d.bulk ≤ 40000) : dRepr [d] = some (.str d.shown) := by
  obtain ⟨h1, h2, h3, _⟩ := nice_show d h
  have q := PyData.shown_le_bulk 19 (by decide) d h3
  refine if_pos ?_
  rw [h1, h2, decide_eq_true (show d.shown.length ≤ 1000000 by omega), decide_eq_true hd]
  rfl
theorem shaped_nice {d : D} (h : nice d = true) (hd : d.depth ≤ 64) : SeqAt.shaped d = true := by
  unfold SeqAt.shaped
  rw [(nice_show d h).2.2.2, decide_eq_true hd]
  rfl
theorem dEq_nice {a b : D} (ha : nice a = true) (hb : nice b = true) (da : a.depth ≤ 64) (db : b.depth ≤ 64) : dEq a b = some (.bool (PyData.eqv a b)) := if_pos (by rw [shaped_nice ha da, shaped_nice hb db]; simp)
theorem dNe_nice {a b : D} (ha : nice a = true) (hb : nice b = true) (da : a.depth ≤ 64) (db : b.depth ≤ 64) : dNe a b = some (.bool (!PyData.eqv a b)) := if_pos (by rw [shaped_nice ha da, shaped_nice hb db]; simp)
mutual
theorem eqv_refl : ∀ d : D, nice d = true → PyData.eqv d d = true
  | .none, _ => rfl
  | .bool b, _ => by rw [PyData.eqv]; simp
  | .int i, _ => by rw [eqv_ii]; simp
  | .str x, _ => by rw [eqv_ss]; simp
  | .list xs, h => by rw [PyData.eqv]; exact eqvAll_refl xs h
  | .tuple xs, h => by rw [PyData.eqv]; exact eqvAll_refl xs h
  | .dict _, h => by cases h
theorem eqvAll_refl : ∀ xs : List D, niceAll xs = true → PyData.eqvAll xs xs = true
  | [], _ => rfl
  | x :: xs, h => by
    obtain ⟨h1, h2⟩ := Bool.and_eq_true_iff.mp h
    rw [PyData.eqvAll, eqv_refl x h1, eqvAll_refl xs h2]
    rfl
end
/-! ### rows of ints -/
abbrev tI (xs : List Int) : D := .tuple (xs.map .int)
theorem nice_ints {xs : List Int} (h : ∀ x ∈ xs, x.natAbs < 10 ^ 18) : niceAll (xs.map .int) = true := niceAll_iff.mpr fun d hd => by
  obtain ⟨x, hx, rfl⟩ := List.mem_map.mp hd
  exact decide_eq_true (h x hx)
theorem bulk_ints (xs : List Int) : PyData.bulkAll (xs.map .int) = xs.length := by
  induction xs with
  | nil => rfl
  | cons x r ih =>
    show PyData.bulk (.int x) + 1 + PyData.bulkAll (r.map .int) = _
    rw [ih, PyData.bulk, List.length_cons]
    omega
theorem depth_ints (xs : List Int) : PyData.depthAll (xs.map .int) = 0 := by
  induction xs with
  | nil => rfl
  | cons x r ih =>
    show max (PyData.depth (.int x)) (PyData.depthAll (r.map .int)) = _
    rw [ih]
    rfl
theorem depth_tI (xs : List Int) : (tI xs).depth = 1 := by
  show PyData.depthAll (xs.map .int) + 1 = 1
  rw [depth_ints]
theorem repr_tI {xs : List Int} (h : ∀ x ∈ xs, x.natAbs < 10 ^ 18) (hl : xs.length ≤ 40000) : dRepr [tI xs] = some (.str (tI xs).shown) := repr_nice (nice_ints h) (by rw [depth_tI]; decide) (by
  show PyData.bulkAll (xs.map .int) ≤ 40000
  rw [bulk_ints]
  exact hl)
theorem eqv_ints : ∀ xs ys : List Int, PyData.eqvAll (xs.map .int) (ys.map .int) = decide (xs = ys)
  | [], [] => rfl
  | [], _ :: _ => rfl
  | _ :: _, [] => rfl
  | x :: xs, y :: ys => by
    show PyData.eqvAll (.int x :: xs.map .int) (.int y :: ys.map .int) = _
    rw [PyData.eqvAll, eqv_ii, eqv_ints xs ys]
    by_cases h : x = y
    · by_cases h2 : xs = ys
      · simp [h, h2]
      · simp [h, h2]
    · simp [h]
theorem eqv_tI (xs ys : List Int) : PyData.eqv (tI xs) (tI ys) = decide (xs = ys) := by
  rw [PyData.eqv]
  exact eqv_ints xs ys
@[simp] theorem dLen_t (xs : List D) : dLen [.tuple xs] = some (.int (xs.length : Nat)) := rfl
@[simp] theorem dLen_l (xs : List D) : dLen [.list xs] = some (.int (xs.length : Nat)) := rfl
@[simp] theorem dMax_ii (a b : Int) : dMax [.int a, .int b] = some (.int (max a b)) := rfl
@[simp] theorem dMin_ii (a b : Int) : dMin [.int a, .int b] = some (.int (min a b)) := rfl
theorem alike_ints (xs : List Int) : allAlike (xs.map .int) = true := by
  unfold allAlike
  rw [List.all_eq_true]
  intro d hd
  obtain ⟨x, _, rfl⟩ := List.mem_map.mp hd
  have : (((xs.map PyData.int).all fun y => PySem.W.alike (.int x) y) = true) := List.all_eq_true.mpr fun e he => by
    obtain ⟨y, _, rfl⟩ := List.mem_map.mp he
    rfl
  rw [this]
  rfl
/-- the greatest -/
def maxI (x : Int) (xs : List Int) : Int := xs.foldl max x
theorem maxD_ints (x : Int) (xs : List Int) : PySem.W.maxD (.int x) (xs.map .int) = .int (maxI x xs) := by
  induction xs generalizing x with
  | nil => rfl
  | cons y r ih =>
    show PySem.W.maxD (if PySem.W.dataLt (.int x) (.int y) then .int y else .int x) (r.map .int) = _
    rw [lt_int]
    by_cases h : x < y
    · rw [decide_eq_true h, if_pos rfl, ih]
      show _ = PyData.int (r.foldl max (max x y))
      rw [show max x y = y by omega]
      rfl
    · rw [decide_eq_false h, if_neg (by decide), ih]
      show _ = PyData.int (r.foldl max (max x y))
      rw [show max x y = x by omega]
      rfl
theorem dMax_l (x : Int) (xs : List Int) : dMax [.list ((x :: xs).map .int)] = some (.int (maxI x xs)) := by
  rw [← maxD_ints]
  exact if_pos (alike_ints (x :: xs))
theorem dMax_t (x : Int) (xs : List Int) : dMax [.tuple ((x :: xs).map .int)] = some (.int (maxI x xs)) := by
  rw [← maxD_ints]
  exact if_pos (alike_ints (x :: xs))
theorem maxI_le {x : Int} {xs : List Int} {b : Int} : maxI x xs ≤ b ↔ x ≤ b ∧ ∀ y ∈ xs, y ≤ b := by
  induction xs generalizing x with
  | nil => simp [maxI]
  | cons y r ih =>
    show maxI (max x y) r ≤ b ↔ _
    rw [ih, Int.max_le, and_assoc]
    simp only [List.mem_cons, forall_eq_or_imp]
theorem le_maxI {x : Int} {xs : List Int} : x ≤ maxI x xs ∧ ∀ y ∈ xs, y ≤ maxI x xs := maxI_le.mp (Int.le_refl _)
theorem dAll_map {α : Type} (f : α → Bool) (xs : List α) : dAll [.list (xs.map fun x => .bool (f x))] = some (.bool (xs.all f)) := by
  show (boolsD (xs.map fun x => .bool (f x))).map _ = _
  have e : (xs.map fun x => PyData.bool (f x)) = (xs.map f).map .bool := by rw [List.map_map]; rfl
  rw [show (xs.map fun x => (PyData.bool (f x))) = (xs.map f).map .bool from e, boolsD_map]
  simp [List.all_map]
theorem dAny_map {α : Type} (f : α → Bool) (xs : List α) : dAny [.list (xs.map fun x => .bool (f x))] = some (.bool (xs.any f)) := by
  show (boolsD (xs.map fun x => .bool (f x))).map _ = _
  have e : (xs.map fun x => PyData.bool (f x)) = (xs.map f).map .bool := by rw [List.map_map]; rfl
  rw [show (xs.map fun x => (PyData.bool (f x))) = (xs.map f).map .bool from e, boolsD_map]
  simp [List.any_map]
/-! ### comprehensions, loops -/
/-- over things told by α: the mirror's answer -/
theorem lcF_map {P α : Type} {pm : D → Option P} {mt : P → Option Bool} {me : P → Option D} (enc : α → D) (t : α → Bool) (h : α → D) : ∀ xs : List α, (∀ a ∈ xs, ∃ p, pm (enc a) = some p ∧ mt p = some (t a) ∧ (t a = true → me p = some (h a))) → lcF pm mt me (xs.map enc) = some ((xs.filter t).map h)
  | [], _ => rfl
  | a :: r, q => by
    obtain ⟨p, h1, h2, h3⟩ := q a List.mem_cons_self
    have ih := lcF_map enc t h r fun b hb => q b (List.mem_cons_of_mem _ hb)
    show ((pm (enc a)).bind fun p => (mt p).bind fun b => if b then (me p).bind fun d => (lcF pm mt me (r.map enc)).map (d :: ·) else lcF pm mt me (r.map enc)) = _
    rw [h1, Option.bind_some, h2, Option.bind_some, ih]
    cases e : t a with
    | true =>
      rw [if_pos rfl, h3 e, List.filter_cons, e]
      rfl
    | false =>
      rw [if_neg (by decide), List.filter_cons, e]
      rfl
theorem lcF_all {P α : Type} {pm : D → Option P} {me : P → Option D} (enc : α → D) (h : α → D) (xs : List α) (q : ∀ a ∈ xs, ∃ p, pm (enc a) = some p ∧ me p = some (h a)) : lcF pm (fun _ => some true) me (xs.map enc) = some (xs.map h) := by
  rw [lcF_map enc (fun _ => true) h xs fun a ha => by
    obtain ⟨p, h1, h2⟩ := q a ha
    exact ⟨p, h1, rfl, fun _ => h2⟩]
  rw [List.filter_eq_self.mpr fun _ _ => rfl]
/-- a loop that goes through all: the state told by σ -/
theorem forF_fold {L R α σ : Type} {f : L → D → Option (Fl L L R)} (enc : α → D) (enL : σ → L) (step : σ → α → σ) (inv : Nat → σ → Prop) (xs : List α) (s : σ) (k : Nat) (h0 : inv k s)
    (h : ∀ i (a : α) (s : σ), xs[i]? = some a → inv (k + i) s → f (enL s) (enc a) = some (.nx (enL (step s a))) ∧ inv (k + i + 1) (step s a)) : forF f (xs.map enc) (enL s) = some (.nx (enL (xs.foldl step s))) ∧ inv (k + xs.length) (xs.foldl step s) := by
  induction xs generalizing s k with
  | nil => exact ⟨rfl, h0⟩
  | cons a r ih =>
    obtain ⟨h1, h2⟩ := h 0 a s rfl h0
    have q := ih (step s a) (k + 1) h2 fun i b s' hi hs => by
      have z := h (i + 1) b s' (by simpa using hi) (by rw [show k + (i + 1) = k + 1 + i by omega]; exact hs)
      rw [show k + (i + 1) = k + 1 + i by omega] at z
      exact z
    refine ⟨?_, ?_⟩
    · show (f (enL s) (enc a)).bind _ = _
      rw [h1]
      exact q.1
    · rw [List.length_cons, show k + (r.length + 1) = k + 1 + r.length by omega]
      exact q.2
@[simp] theorem dPlus_ii (a b : Int) : dPlus (.int a) (.int b) = some (.int (a + b)) := rfl
theorem dPlus_tt {a b : List D} (h : a.length + b.length ≤ 100000) : dPlus (.tuple a) (.tuple b) = some (.tuple (a ++ b)) := if_pos (Nat.le_trans h (by decide))
theorem dPlus_ll {a b : List D} (h : a.length + b.length ≤ 100000) : dPlus (.list a) (.list b) = some (.list (a ++ b)) := if_pos h
theorem appD_s {ds : List D} {d : D} (h : ds.length < 100000) : appD ds d = some (ds ++ [d]) := if_pos h
theorem cut_to {α : Type} (ds : List α) (k : Nat) : cutD ds none (some (k : Int)) = ds.take k := by
  unfold cutD
  rw [HT.sIx_none, HT.sIx_nat, List.drop_zero, Nat.sub_zero, Nat.min_def]
  split
  · rfl
  · rw [List.take_of_length_le (Nat.le_refl _), List.take_of_length_le (by omega)]
theorem cut_from {α : Type} (ds : List α) (k : Nat) : cutD ds (some (k : Int)) none = ds.drop k := by
  unfold cutD
  rw [HT.sIx_none, HT.sIx_nat, Nat.min_def]
  split
  · exact List.take_of_length_le (by rw [List.length_drop]; exact Nat.le_refl _)
  · rw [List.drop_of_length_le (Nat.le_refl _), List.drop_of_length_le (by omega)]
    simp
theorem ixN_nat {n k : Nat} (h : k < n) : ixN n (k : Int) = some k := by
  unfold ixN
  rw [if_pos (Int.natCast_nonneg k), if_pos (by omega)]
  rfl
theorem ixN_last {n : Nat} (h : 0 < n) : ixN n (-1) = some (n - 1) := by
  unfold ixN
  rw [if_neg (by decide), if_pos (by omega)]
  congr 1
  omega
theorem ix_t {ds : List D} {k : Nat} (h : k < ds.length) : dIx (.tuple ds) (.int (k : Nat)) = some ds[k] := by
  show (ixN ds.length (k : Int)).bind _ = _
  rw [ixN_nat h]
  exact List.getElem?_eq_getElem h
theorem ix_l {ds : List D} {k : Nat} (h : k < ds.length) : dIx (.list ds) (.int (k : Nat)) = some ds[k] := by
  show (ixN ds.length (k : Int)).bind _ = _
  rw [ixN_nat h]
  exact List.getElem?_eq_getElem h
theorem ix_last_t {ds : List D} (h : 0 < ds.length) : dIx (.tuple ds) (.int (-1)) = some ds[ds.length - 1] := by
  show (ixN ds.length (-1)).bind _ = _
  rw [ixN_last h]
  exact List.getElem?_eq_getElem (by omega)
theorem ix_last_l {ds : List D} (h : 0 < ds.length) : dIx (.list ds) (.int (-1)) = some ds[ds.length - 1] := by
  show (ixN ds.length (-1)).bind _ = _
  rw [ixN_last h]
  exact List.getElem?_eq_getElem (by omega)
theorem rOk_nat {n : Nat} (h : n ≤ 100000) : rOk (n : Int) = true := cl_iff.mpr ⟨by omega, by omega⟩
theorem rangeL_nat (n : Nat) : rangeL 0 (n : Int) = (List.range n).map fun i => .int (i : Nat) := by
  unfold rangeL
  rw [Int.sub_zero, Int.toNat_natCast]
  congr 1
  funext i
  rw [Int.zero_add]
theorem range_0 {n : Nat} (h : n ≤ 100000) : dR1 (.int (n : Nat)) = some ((List.range n).map fun i => .int (i : Nat)) := by
  show (if rOk (n : Int) = true then some (rangeL 0 (n : Int)) else none) = _
  rw [rOk_nat h, rangeL_nat]
  exact if_pos rfl
theorem enum_rg (n : Nat) (f : Nat → D) : enumD (.tuple ((List.range n).map f)) = some ((List.range n).map fun i => .tuple [.int (i : Nat), f i]) := by
  unfold enumD
  rw [iterD_t, Option.map_some]
  congr 1
  apply List.ext_getElem?
  intro i
  rw [List.getElem?_map, List.getElem?_zipIdx, List.getElem?_map, List.getElem?_map]
  by_cases h : i < n
  · rw [List.getElem?_range h]
    simp
  · rw [List.getElem?_eq_none (by simpa using h)]
    rfl
theorem enum_rgl (n : Nat) (f : Nat → D) : enumD (.list ((List.range n).map f)) = some ((List.range n).map fun i => .tuple [.int (i : Nat), f i]) := enum_rg n f
theorem zip_rg (n m : Nat) (f g : Nat → D) : zip2L ((List.range n).map f) ((List.range m).map g) = (List.range (min n m)).map fun i => .tuple [f i, g i] := by
  unfold zip2L
  apply List.ext_getElem?
  intro i
  rw [List.getElem?_map, List.getElem?_map]
  by_cases h : i < min n m
  · have h1 : i < n := by omega
    have h2 : i < m := by omega
    have e : (((List.range n).map f).zip ((List.range m).map g))[i]? = some (f i, g i) := by
      rw [List.getElem?_zip_eq_some, List.getElem?_map, List.getElem?_map, List.getElem?_range h1, List.getElem?_range h2]
      exact ⟨rfl, rfl⟩
    rw [e, List.getElem?_range h]
    rfl
  · rw [List.getElem?_eq_none (by simp; omega), List.getElem?_eq_none (by simp; omega)]
    rfl
/-- a loop that may end early -/
theorem forF_find {L R α : Type} {f : L → D → Option (Fl L L R)} {l : L} (enc : α → D) (good : α → Prop) (ok : R → Prop) : ∀ xs : List α, (∀ a ∈ xs, (good a ∧ f l (enc a) = some (.nx l)) ∨ (¬ good a ∧ ∃ z, ok z ∧ f l (enc a) = some (.rt z))) →
    ((∀ a ∈ xs, good a) ∧ forF f (xs.map enc) l = some (.nx l)) ∨ ((∃ a ∈ xs, ¬ good a) ∧ ∃ z, ok z ∧ forF f (xs.map enc) l = some (.rt z))
  | [], _ => .inl ⟨fun a h => (by cases h), rfl⟩
  | a :: r, h => by
    rcases h a List.mem_cons_self with ⟨h1, h2⟩ | ⟨h1, z, h2, h3⟩
    · have e : forF f ((a :: r).map enc) l = forF f (r.map enc) l := by
        show (f l (enc a)).bind _ = _
        rw [h2]
        rfl
      rcases forF_find enc good ok r fun b hb => h b (List.mem_cons_of_mem _ hb) with ⟨q1, q2⟩ | ⟨⟨b, hb, q1⟩, q2⟩
      · refine .inl ⟨fun b hb => ?_, by rw [e]; exact q2⟩
        rcases List.mem_cons.mp hb with rfl | hb
        · exact h1
        · exact q1 b hb
      · exact .inr ⟨⟨b, List.mem_cons_of_mem _ hb, q1⟩, by rw [e]; exact q2⟩
    · refine .inr ⟨⟨a, List.mem_cons_self, h1⟩, z, h2, ?_⟩
      show (f l (enc a)).bind _ = _
      rw [h3]
      rfl
/-- the greatest of those that count -/
theorem fold_max {α : Type} {c : α → Bool} {v : α → Int} (xs : List α) (h b : Int) : xs.foldl (fun h a => if c a then max h (v a) else h) h ≤ b ↔ h ≤ b ∧ ∀ a ∈ xs, c a = true → v a ≤ b := by
  induction xs generalizing h with
  | nil => simp
  | cons a r ih =>
    rw [List.foldl_cons, ih]
    simp only [List.mem_cons, forall_eq_or_imp]
    cases e : c a with
    | true =>
      rw [if_pos rfl, Int.max_le, and_assoc]
      simp
    | false => simp
theorem eq_of_le {x y : Int} (h : ∀ c, x ≤ c ↔ y ≤ c) : x = y := Int.le_antisymm ((h y).mpr (Int.le_refl _)) ((h x).mp (Int.le_refl _))
theorem sl_from1 (ds : List D) : slO dSl (some (.tuple ds)) (some (some 1)) (some none) = some (.tuple (ds.drop 1)) := by
  show some (PyData.tuple (cutD ds (some ((1 : Nat) : Int)) none)) = _
  rw [cut_from]
theorem sl_to (ds : List D) (k : Nat) : slO dSl (some (.tuple ds)) (some none) (some (some (k : Int))) = some (.tuple (ds.take k)) := by
  show some (PyData.tuple (cutD ds none (some (k : Int)))) = _
  rw [cut_to]
theorem sl_to_l (ds : List D) (k : Nat) : slO dSl (some (.list ds)) (some none) (some (some (k : Int))) = some (.list (ds.take k)) := by
  show some (PyData.list (cutD ds none (some (k : Int)))) = _
  rw [cut_to]
/-- a loop by an invariant -/
theorem forF_rel {L R : Type} {f : L → D → Option (Fl L L R)} (inv : Nat → L → Prop) : ∀ (xs : List D) (l : L) (k : Nat), inv k l → (∀ (i : Nat) (x : D) (l : L), xs[i]? = some x → inv (k + i) l → ∃ l', f l x = some (.nx l') ∧ inv (k + i + 1) l') → ∃ l', forF f xs l = some (.nx l') ∧ inv (k + xs.length) l'
  | [], l, k, h0, _ => ⟨l, rfl, h0⟩
  | x :: r, l, k, h0, h => by
    obtain ⟨l', h1, h2⟩ := h 0 x l rfl h0
    obtain ⟨l2, h3, h4⟩ := forF_rel inv r l' (k + 1) h2 fun i y l hi hl => by
      have z := h (i + 1) y l (by simpa using hi) (by rw [show k + (i + 1) = k + 1 + i by omega]; exact hl)
      rw [show k + (i + 1) = k + 1 + i by omega] at z
      exact z
    refine ⟨l2, ?_, by rw [List.length_cons, show k + (r.length + 1) = k + 1 + r.length by omega]; exact h4⟩
    show (f l x).bind _ = _
    rw [h1]
    exact h3
/-- a comprehension with effects, by an invariant -/
theorem lcX_rel {T P : Type} {pm : D → Option P} {mt : P → T → Option (Bool × T)} {me : P → T → Option (D × T)} (inv : Nat → T → Prop) (ok : D → Prop) : ∀ (xs : List D) (t : T) (k : Nat), inv k t → (∀ (i : Nat) (x : D) (t : T), xs[i]? = some x → inv (k + i) t → ∃ p, pm x = some p ∧ mt p t = some (true, t) ∧ ∃ d t', me p t = some (d, t') ∧ ok d ∧ inv (k + i + 1) t') →
    ∃ ds t', lcX pm mt me xs t = some (ds, t') ∧ ds.length = xs.length ∧ (∀ d ∈ ds, ok d) ∧ inv (k + xs.length) t'
  | [], t, k, h0, _ => ⟨[], t, rfl, rfl, fun d h => (by cases h), h0⟩
  | x :: r, t, k, h0, h => by
    obtain ⟨p, h1, h2, d, t', h3, h4, h5⟩ := h 0 x t rfl h0
    obtain ⟨ds, t2, h6, h7, h8, h9⟩ := lcX_rel (pm := pm) (mt := mt) (me := me) inv ok r t' (k + 1) h5 fun i y l hi hl => by
      have z := h (i + 1) y l (by simpa using hi) (by rw [show k + (i + 1) = k + 1 + i by omega]; exact hl)
      rw [show k + (i + 1) = k + 1 + i by omega] at z
      exact z
    refine ⟨d :: ds, t2, ?_, by rw [List.length_cons, List.length_cons, h7], fun z hz => ?_, by rw [List.length_cons, show k + (r.length + 1) = k + 1 + r.length by omega]; exact h9⟩
    · show ((pm x).bind fun p => (mt p t).bind fun q => if q.1 then (me p q.2).bind fun w => (lcX pm mt me r w.2).map fun z => (w.1 :: z.1, z.2) else lcX pm mt me r q.2) = _
      rw [h1, Option.bind_some, h2, Option.bind_some, if_pos rfl]
      show ((me p t).bind _) = _
      rw [h3, Option.bind_some]
      show (lcX pm mt me r t').map _ = _
      rw [h6]
      rfl
    · rcases List.mem_cons.mp hz with rfl | hz
      · exact h4
      · exact h8 z hz
end DL

set_option Elab.async false
set_option linter.all false
set_option maxRecDepth 100000
set_option maxHeartbeats 2000000
set_option autoImplicit false
namespace DL
open PySem PySem.Spec PyProof.Rows L2
/-! ### dicts: what is put in -/
def putD (kvs : List (D × D)) (k : Key) (d : D) : List (D × D) := if kvs.any (fun p => isK k p.1) then kvs.map (fun p => if isK k p.1 then (p.1, d) else p) else kvs ++ [(keyD k, d)]
def mergeD (kvs : List (D × D)) (more : List (Key × D)) : List (D × D) := more.foldl (fun acc p => putD acc p.1 p.2) kvs
theorem RpK.any {K : Fr_} {H : Hp} (k : Key) : ∀ {ws : List (Key × V)} {kvs : List (D × D)}, RpK K H ws kvs → (ws.any fun p => decide (p.1 = k)) = kvs.any fun p => isK k p.1
  | [], [], _ => rfl
  | [], _ :: _, h => by cases h.1
  | _ :: _, [], h => by cases h.1
  | (j, v) :: r, (q, d) :: r', ⟨h1, h2⟩ => by
    have hq : keyD j = q := (List.cons.inj h1).1
    subst hq
    cases h2 with
    | cons hv hr =>
      rw [List.any_cons, List.any_cons, RpK.any k (ws := r) (kvs := r') ⟨(List.cons.inj h1).2, hr⟩, isK_keyD]
theorem RpK.cons {K : Fr_} {H : Hp} {ws : List (Key × V)} {kvs : List (D × D)} {k : Key} {v : V} {d : D} (h : Rp K H v d) (r : RpK K H ws kvs) : RpK K H ((k, v) :: ws) ((keyD k, d) :: kvs) := ⟨by rw [List.map_cons, List.map_cons, r.1], .cons h r.2⟩
theorem RpK.repl {K : Fr_} {H : Hp} (k : Key) {v : V} {d : D} (h : Rp K H v d) : ∀ {ws : List (Key × V)} {kvs : List (D × D)}, RpK K H ws kvs → RpK K H (ws.map fun p => if p.1 = k then (p.1, v) else p) (kvs.map fun p => if isK k p.1 then (p.1, d) else p)
  | [], [], _ => ⟨rfl, .nil⟩
  | [], _ :: _, h => by cases h.1
  | _ :: _, [], h => by cases h.1
  | (j, w) :: r, (q, e) :: r', ⟨h1, h2⟩ => by
    have hq : keyD j = q := (List.cons.inj h1).1
    subst hq
    cases h2 with
    | cons hv hr =>
      have ih := RpK.repl k h (ws := r) (kvs := r') ⟨(List.cons.inj h1).2, hr⟩
      rw [List.map_cons, List.map_cons]
      by_cases e1 : j = k
      · rw [if_pos e1, if_pos (by rw [isK_keyD]; exact decide_eq_true e1)]
        exact ih.cons h
      · rw [if_neg e1, if_neg (by rw [isK_keyD]; simpa using e1)]
        exact ih.cons hv
theorem RpK.snoc {K : Fr_} {H : Hp} {ws : List (Key × V)} {kvs : List (D × D)} (k : Key) {v : V} {d : D} (h : Rp K H v d) (r : RpK K H ws kvs) : RpK K H (ws ++ [(k, v)]) (kvs ++ [(keyD k, d)]) := by
  refine ⟨by rw [List.map_append, List.map_append, r.1]; rfl, ?_⟩
  rw [List.map_append, List.map_append]
  exact r.2.append (.cons h .nil)
theorem RpK.put {K : Fr_} {H : Hp} {ws : List (Key × V)} {kvs : List (D × D)} (k : Key) {v : V} {d : D} (h : Rp K H v d) (r : RpK K H ws kvs) : RpK K H (putK ws k v) (putD kvs k d) := by
  unfold putK putD
  rw [r.any k]
  split
  · exact r.repl k h
  · exact r.snoc k h
theorem RpK.merge {K : Fr_} {H : Hp} : ∀ {ms : List (Key × V)} {es : List (Key × D)} {ws : List (Key × V)} {kvs : List (D × D)}, ms.map (·.1) = es.map (·.1) → RpA K H (ms.map (·.2)) (es.map (·.2)) → RpK K H ws kvs → RpK K H (mergeK ws ms) (mergeD kvs es)
  | [], [], _, _, _, _, r => r
  | [], _ :: _, _, _, h, _, _ => by cases h
  | _ :: _, [], _, _, h, _, _ => by cases h
  | (j, v) :: r, (q, d) :: r', ws, kvs, h1, h2, z => by
    have hq : j = q := (List.cons.inj h1).1
    subst hq
    cases h2 with
    | cons hv hr => exact RpK.merge (ms := r) (es := r') (List.cons.inj h1).2 hr (z.put j hv)
/-! ### a new dict -/
section
variable (X : Cx) (c : FC) (Γ : Env_)
def DD (e : Expr) (m : Option (List (D × D))) : Prop := ∀ kvs, m = some kvs → ∀ (σ : St) (H : Hp) (Q : VK), EnvOk X.K c σ H Γ → (∀ a H' ws, H a = none → Same H H' → H' a = some (.dK ws) → RpK X.K H' ws kvs → Q (.ref a) H') → sE X e σ H Q
def DXD {T : Type} (G : T → Env_) (e : Expr) (m : T → Option (List (D × D) × T)) : Prop := ∀ t kvs t', m t = some (kvs, t') → ∀ (σ : St) (H : Hp) (Q : VK), EnvOk X.K c σ H (G t) → (∀ a H' ws, H a = none → EnvOk X.K c σ H' (G t') → Step (G t) (G t') σ H H' → H' a = some (.dK ws) → RpK X.K H' ws kvs → Q (.ref a) H') → sE X e σ H Q
end
section
variable {X : Cx} {c : FC} {Γ : Env_}
theorem dxd_lift {T : Type} {G : T → Env_} {e : Expr} {m : T → Option (List (D × D))} (h : ∀ t, DD X c (G t) e (m t)) : DXD X c G e (liftX m) := fun t d t' hd σ H Q E k => by
  obtain ⟨e1, rfl⟩ := liftX_eq hd
  exact h _ d e1 σ H Q E fun a H' xs hn s ha r => k a H' xs hn (E.same s) (.of_same E s) ha r
theorem dxk_dct {T : Type} {G : T → Env_} {e : Expr} {m : T → Option (List (D × D) × T)} (h : DXD X c G e m) : DXK X c G .dct e m := fun t a t' hm σ H Q E k => h t a t' hm σ H Q E fun ad H' xs hn E' s ha r =>
  k _ H' E' s (Kd.dct_of ha r (fun o => E.notOwn hn (s.2 _ o)) (E.fresh0 hn)) fun _ b e => by cases e; exact hn
theorem DD.e {e : Expr} {m : Option (List (D × D))} (h : DD X c Γ e m) : DE X c Γ e (m.map .dict) := fun d hd σ H Q E k => by
  obtain ⟨ds, e1, rfl⟩ := Option.map_eq_some_iff.mp hd
  refine sE_of (pe_frz (pe_s e)) ?_
  refine h ds e1 σ H _ E fun a H' ws hn s ha r => ⟨a, _, rfl, ha, trivial, fun o => ?_⟩
  have m' : Mono H' (upd H' a (.frz o (.dK ws))) := by
    refine ⟨fun b zs hb => ?_, fun b o' u hb => ?_⟩
    · rw [upd_ne (ne_of hb ha (by intro z; cases z))]
      exact hb
    · rw [upd_ne (ne_of hb ha (by intro z; cases z))]
      exact hb
  refine k _ _ (fun b o' e' => ?_) (.dct ⟨o, upd_same⟩ r.1 (r.2.mono m'))
  rw [upd_ne (ne_of_none e' hn)]
  exact s b o' e'
theorem dd_new {pos : Pos} : DD X c Γ (.Dict [] [] pos) (some []) := fun d hd σ H Q E k => by
  cases hd
  exact sE_of pe_dnewK fun p hp => k p _ [] hp (Same.new hp) upd_same ⟨rfl, .nil⟩
/-! dict(..) of pairs -/
def pairD : D → Option (Key × D)
  | .tuple [k, v] => (keyOf k).map fun q => (q, v)
  | _ => none
def pairsD : List D → Option (List (Key × D))
  | [] => some []
  | d :: r => (pairD d).bind fun p => (pairsD r).map (p :: ·)
def dDict : List D → Option (List (D × D))
  | [.list ds] => (pairsD ds).map (mergeD [])
  | [.tuple ds] => if plainT then (pairsD ds).map (mergeD []) else none
  | _ => none
def CallDD (X : Cx) (f : Value) (g : List D → Option (List (D × D))) : Prop := CallR X f fun vs H Q => ∃ ds z, RpWA X.K H vs ds ∧ g ds = some z ∧ ∀ a H' ws, H a = none → Same H H' → H' a = some (.dK ws) → RpK X.K H' ws z → Q (.ref a) H'
theorem pairs_of2 {pins : List (Addr × Obj)} {σ : St} {H : Hp} {s : Shared} (I : Inv X pins σ H s) : ∀ {ps : List Addr} {kvs : List (Key × V)}, Paired (fun p kv => SqT X.K H p [kV kv.1, kv.2]) ps kvs →
    ∃ (prs : List (Key × Value)) (us : List (Value × Value)), KV kvs prs ∧ prs.length = ps.length ∧ us.length = ps.length ∧ (∀ (j : Nat) (u w : Value), us[j]? = some (u, w) → ∃ b, ps[j]? = some b ∧ s.heap.IsTuple b #[u, w]) ∧
      ∀ (j : Nat) (u w : Value), us[j]? = some (u, w) → ∃ k, prs[j]? = some (k, w) ∧ (mixKind X.prog X.w).is k u = true
  | _, _, .nil => ⟨[], [], .nil, rfl, rfl, fun j u w e => by simp at e, fun j u w e => by simp at e⟩
  | _, _, .cons (a := p) (b := kv) h t => by
    obtain ⟨prs, us, r, hl, hl2, hp, hq⟩ := pairs_of2 I t
    obtain ⟨its, rv, ht, _⟩ := I.tuple h
    obtain ⟨u, y, ei, ru, ry⟩ := vals2 rv
    subst ei
    refine ⟨(kv.1, y) :: prs, (u, y) :: us, .cons ⟨rfl, ry⟩ r, by rw [List.length_cons, List.length_cons, hl], by rw [List.length_cons, List.length_cons, hl2], fun j u' w' e => ?_, fun j u' w' e => ?_⟩
    · cases j with
      | zero =>
        have e' : (u, y) = (u', w') := Option.some.inj e
        cases e'
        exact ⟨p, rfl, ht⟩
      | succ j =>
        obtain ⟨b, e1, e2⟩ := hp j u' w' (by simpa using e)
        exact ⟨b, by simpa using e1, e2⟩
    · cases j with
      | zero =>
        have e' : (u, y) = (u', w') := Option.some.inj e
        cases e'
        exact ⟨kv.1, rfl, kV_is (P := X.prog) (w := X.w) ru⟩
      | succ j =>
        obtain ⟨b, e1, e2⟩ := hq j u' w' (by simpa using e)
        exact ⟨b, by simpa using e1, e2⟩
theorem plain_tup {pins : List (Addr × Obj)} {σ : St} {H : Hp} {s : Shared} {a : Addr} {xs : List V} {o : Obj} (I : Inv X pins σ H s) (hpt : plainT = true) (h : TupP X.K H a xs) (ho : s.heap.get? a = some o) : o.dict = none := by
  rcases h with ⟨u, h1, h2⟩ | ⟨_, o', its, n, h1, h2, h3, _⟩
  · rcases isPT_cases h1 with ⟨_, o', hd, rfl⟩ | ⟨hf, _⟩
    · obtain ⟨e, _⟩ := (show ObjOk X.prog X.w H s.heap a (.frz o' (.tup xs)) from I.hok a _ h2)
      rw [ho] at e
      cases e
      exact hd
    · rw [hpt] at hf
      cases hf
  · have e := I.kIn a o' h1
    rw [ho] at e
    cases e
    exact h3
theorem call_dictT (hcalm : X.calm = true) : CallR X (.type "dict") (fun xs H Q => ∃ (a : Addr) (ps : List Addr) (kvs : List (Key × V)), xs = [.ref a] ∧ (plainT = true ∧ TupP X.K H a (ps.map V.ref)) ∧ Paired (fun p kv => SqT X.K H p [kV kv.1, kv.2]) ps kvs ∧
    ∀ p, H p = none → Q (.ref p) (upd H p (.dK (mergeK [] kvs)))) := by
  intro pins s σ H xs us Q I r q
  obtain ⟨a, ps, kvs, ex, ⟨hpt, hqp⟩, hp, q⟩ := q
  have hq := hqp.sq
  subst ex
  obtain ⟨u, eu, rx⟩ := vals1 r
  subst eu
  cases rx
  obtain ⟨its, rv, pl, hz⟩ := I.tuple hq
  have ei := refs_at rv
  subst ei
  rw [List.length_map] at hz
  obtain ⟨prs, uws, rel, hl, hl2, hp1, hp2⟩ := pairs_of2 I hp
  have hit : PySem.PlainSeq "tuple" s.heap a (ps.map Value.ref).toArray := by
    obtain ⟨o, ho, hc, n, hdat⟩ := pl
    refine ⟨o, n, ho, hc, ?_, hdat⟩
    exact plain_tup I hpt hqp ho
  refine PySem.call_dict_pairs (knd := mixKind X.prog X.w) (kvs := prs) (PySem.PairArg.tuple a (ps.map Value.ref).toArray (fun j => ps.getD j 0) uws) (I.ok.hd hcalm) ⟨hit, by simp [hl2], fun j k v e => ?_⟩ ⟨by rw [hl, hl2], fun i key v e => hp2 i key v e⟩ (by rw [hl2]; exact hz) fun h' tk hd' k => ?_
  · obtain ⟨b, e1, e2⟩ := hp1 j k v e
    refine ⟨?_, .inl ?_⟩
    · simp [e1]
    · show s.heap.IsTuple (ps.getD j 0) #[k, v]
      rw [show ps.getD j 0 = b by simp [e1]]
      exact e2
  · have hm : (s.heap.objs.size == sysModules) = false := beq_eq_false_iff_ne.mpr (Nat.ne_of_gt I.big)
    have hlen : (mergeK [] kvs).length ≤ sizeLine := by
      refine Nat.le_trans (length_mergeK kvs []) ?_
      rw [List.length_nil, Nat.zero_add, rel.length, hl]
      exact hz
    exact ⟨.ref s.heap.objs.size, upd H s.heap.objs.size (.dK (mergeK [] kvs)), I.laid (t' := tk) (fun b o e => k b o (by simp) e) (Nat.le_refl _) (show ObjOk X.prog X.w _ _ _ (.dK (mergeK [] kvs)) from ⟨hlen, hm, merged [] prs, KV.merge rel .nil, hd'⟩), rfl, q _ (I.hok.fresh (Nat.le_refl _))⟩
theorem rp_pairs {K : Fr_} {H : Hp} : ∀ {xs : List V} {ds : List D} {prs : List (Key × D)}, RpA K H xs ds → pairsD ds = some prs → ∃ (ps : List Addr) (kvs : List (Key × V)), xs = ps.map V.ref ∧ Paired (fun p kv => SqT K H p [kV kv.1, kv.2]) ps kvs ∧ kvs.map (·.1) = prs.map (·.1) ∧ RpA K H (kvs.map (·.2)) (prs.map (·.2))
  | _, _, _, .nil, e => by
    cases e
    exact ⟨[], [], rfl, .nil, rfl, .nil⟩
  | _, _, _, .cons (d := d) h r, e => by
    obtain ⟨p, e1, e2⟩ := Option.bind_eq_some_iff.mp e
    obtain ⟨prs, e3, rfl⟩ := Option.map_eq_some_iff.mp e2
    obtain ⟨ps, kvs, rfl, h2, h3, h4⟩ := rp_pairs r e3
    unfold pairD at e1
    split at e1
    · rename_i kd vd
      obtain ⟨q, e4, rfl⟩ := Option.map_eq_some_iff.mp e1
      obtain ⟨a, ys, rfl, hq, rr⟩ := RpW.tuple (.st h)
      cases rr with
      | cons hk rr =>
        cases rr with
        | cons hv rr =>
          cases rr
          have := RpW.key (.st hk) e4
          subst this
          exact ⟨a :: ps, (q, _) :: kvs, rfl, .cons hq h2, by rw [List.map_cons, List.map_cons, h3], .cons hv h4⟩
    · cases e1
theorem cdd_dict (hcalm : X.calm = true) : CallDD X (.type "dict") dDict := CallR.imp (CallR.or (call_dictP hcalm) (call_dictT hcalm)) fun vs H Q ⟨ds, z, h, e, k⟩ => by
  have fin : ∀ {prs : List (Key × D)} {kvs : List (Key × V)}, kvs.map (·.1) = prs.map (·.1) → RpA X.K H (kvs.map (·.2)) (prs.map (·.2)) → z = mergeD [] prs → ∀ a, H a = none → Q (.ref a) (upd H a (.dK (mergeK [] kvs))) := fun {prs kvs} hk hv ez a ha => by
    subst ez
    exact k a _ _ ha (Same.new ha) upd_same (RpK.mono (.of_same (Same.new ha)) (RpK.merge hk hv ⟨rfl, .nil⟩))
  unfold dDict at e
  split at e
  · obtain ⟨prs, e3, rfl⟩ := Option.map_eq_some_iff.mp e
    obtain ⟨v, rfl, h1⟩ := h.one
    obtain ⟨p, xs, rfl, hq, r⟩ := h1.list
    obtain ⟨ps, kvs, rfl, hp, hk, hv⟩ := rp_pairs r e3
    exact .inl ⟨p, ps, kvs, rfl, hq, hp, fin hk hv rfl⟩
  · split at e
    · rename_i hpt
      obtain ⟨prs, e3, rfl⟩ := Option.map_eq_some_iff.mp e
      obtain ⟨v, rfl, h1⟩ := h.one
      obtain ⟨p, xs, rfl, hq, r⟩ := h1.tupleP
      obtain ⟨ps, kvs, rfl, hp, hk, hv⟩ := rp_pairs r e3
      exact .inr ⟨p, ps, kvs, rfl, ⟨hpt, hq⟩, hp, fin hk hv rfl⟩
    · cases e
  · cases e
theorem dd_callT {x : Str} {id : String} {g : List D → Option (List (D × D))} {e : Expr} {es : List Expr} {m : Option (List D)} {p pos : Pos} (hc : CallDD X (.type id) g) (hm : X.mg x = none) (ha : DAw X c Γ (e :: es) m) (hg : Gl X x := by rfl) (hv : bootBuiltins x = some (.type id) := by decide +kernel)
    (hs : NoStar X (e :: es) := by exact ⟨rfl, rfl, rfl, rfl, trivial⟩) (hn : x ≠ "__name__" := by decide) (hdb : (x == ("__debug__" : Str)) = false := by decide) (hpl : (backTo pos (starEach es X.env)).any (·.1) = false := by rfl) : DD X c Γ (.Call (.Name x p) (e :: es) [] pos) (m.bind g) := fun d hd σ H Q E k => by
  obtain ⟨ds, e1, e2⟩ := Option.bind_eq_some_iff.mp hd
  refine sE_of (pe_callTy hc hg hm hv (pa_s hs) hn hdb hs.1 hpl) ?_
  exact ha ds e1 σ H _ E fun vs H1 s1 r1 => ⟨ds, d, r1, e2, fun a H2 xs hn s2 h2 r2 => k a H2 xs (s1.free hn) (s1.trans s2) h2 r2⟩
/-! a dict that a slot holds -/
theorem dw_dct (i : Nat) {kvs : List (D × D)} {x : Str} {pos : Pos} (h : Γ[i]? = some (.dct kvs) := by rfl) (hN : X.N[i]? = some x := by rfl) (hv : Vis X.env.scope x := by first | exact Or.inl rfl | exact Or.inr (Or.inl rfl) | exact Or.inr (Or.inr rfl)) (hd : (x == ("__debug__" : Str)) = false := by decide)
    (hcd : (x == ("__classdict__" : Str)) = false := by decide) : DW X c Γ (.Name x pos) (some (.dict kvs)) := fun d' hd' σ H Q E k => by
  cases hd'
  obtain ⟨a, xs, e, ha, r⟩ := E.cells i _ h
  exact sE_of (pe_var hN hv hd hcd) ⟨_, e, k _ H (Same.refl H) (.od ha r)⟩
/-! d.get(k), d.get(k, x) -/
def dGet1 : D → D → Option D
  | .dict kvs, k => (keyOf k).map fun q => (getK kvs q).getD .none
  | _, _ => none
def dGet2 : D → D → D → Option D
  | .dict kvs, k, x => (keyOf k).map fun q => (getK kvs q).getD x
  | _, _, _ => none
theorem Rd.same {H H' : Hp} {a : Addr} {u : HO} (s : Same H H') (h : Rd H a u) : Rd H' a u := by
  rcases h with h | ⟨o, h⟩
  · exact .inl (s _ _ h)
  · exact .inr ⟨o, s _ _ h⟩
theorem de_dget1 {o e : Expr} {mo me : Option D} {apos cpos : Pos} (hu : X.A.units + 100 < cLine) (ho : DW X c Γ o mo) (he : DE X c Γ e me) (m : M1 X o "get" apos e cpos := by exact ⟨rfl, rfl, rfl, rfl⟩) : DE X c Γ (.Call (.Attribute o "get" apos) [e] [] cpos) (bin dGet1 mo me) := fun d hd σ H Q E k => by
  obtain ⟨x, e1, e2⟩ := Option.bind_eq_some_iff.mp hd
  obtain ⟨y, e3, e4⟩ := Option.bind_eq_some_iff.mp e2
  unfold dGet1 at e4
  split at e4
  · rename_i kvs
    obtain ⟨q, e5, rfl⟩ := Option.map_eq_some_iff.mp e4
    refine sE_of (pe_dget1 (by omega) (pe_s o) (pe_s e) m) (ho _ e1 σ H _ E fun v H1 s1 r1 => ?_)
    obtain ⟨a, ws, rfl, hd, r⟩ := r1.dict
    refine ⟨a, rfl, .inl ⟨ws, hd⟩, he y e3 σ H1 _ (E.same s1) fun u H2 s2 r2 => ⟨_, .inl ⟨ws, q, Rd.same s2 hd, RpW.key (.st r2) e5, rfl⟩, ?_⟩⟩
    have r' : RpK X.K H2 ws kvs := r.mono (.of_same s2)
    rcases r'.get q with ⟨h1, h2⟩ | ⟨w, d, h1, h2, h3⟩
    · rw [h1]
      exact k _ H2 (s1.trans s2) (by rw [h2]; exact .non)
    · rw [h1]
      exact k _ H2 (s1.trans s2) (by rw [h2]; exact h3)
  · cases e4
theorem de_dget2 {o e f : Expr} {mo me mf : Option D} {apos cpos : Pos} (hu : X.A.units + 100 < cLine) (ho : DW X c Γ o mo) (he : DE X c Γ e me) (hf : DE X c Γ f mf) (m : M2 X o "get" apos e f cpos := by exact ⟨rfl, rfl, rfl, rfl⟩) : DE X c Γ (.Call (.Attribute o "get" apos) [e, f] [] cpos) (mo.bind fun x => me.bind fun y => mf.bind fun z => dGet2 x y z) := fun d hd σ H Q E k => by
  obtain ⟨x, e1, e2⟩ := Option.bind_eq_some_iff.mp hd
  obtain ⟨y, e3, e4⟩ := Option.bind_eq_some_iff.mp e2
  obtain ⟨z, e6, e7⟩ := Option.bind_eq_some_iff.mp e4
  unfold dGet2 at e7
  split at e7
  · rename_i kvs
    obtain ⟨q, e5, rfl⟩ := Option.map_eq_some_iff.mp e7
    refine sE_of (pe_dget2 (by omega) (pe_s o) (pe_s e) (pe_s f) m) (ho _ e1 σ H _ E fun v H1 s1 r1 => ?_)
    obtain ⟨a, ws, rfl, hd, r⟩ := r1.dict
    refine ⟨a, rfl, .inl ⟨ws, hd⟩, he y e3 σ H1 _ (E.same s1) fun u H2 s2 r2 => hf z e6 σ H2 _ ((E.same s1).same s2) fun u3 H3 s3 r3 => ⟨_, .inl ⟨ws, q, Rd.same s3 (Rd.same s2 hd), RpW.key (.st r2) e5, rfl⟩, ?_⟩⟩
    have r' : RpK X.K H3 ws kvs := (r.mono (.of_same s2)).mono (.of_same s3)
    rcases r'.get q with ⟨h1, h2⟩ | ⟨w, d, h1, h2, h3⟩
    · rw [h1]
      exact k _ H3 ((s1.trans s2).trans s3) (by rw [h2]; exact r3)
    · rw [h1]
      exact k _ H3 ((s1.trans s2).trans s3) (by rw [h2]; exact h3)
  · cases e7
end
end DL

set_option Elab.async false
set_option linter.all false
set_option maxRecDepth 100000
set_option maxHeartbeats 2000000
set_option autoImplicit false
namespace DL
open PySem PySem.Spec PyProof.Rows L2
/-! ### xs[::-1] -/
section
variable {X : Cx} {c : FC} {Γ : Env_}
def revL : D → Option (List D)
  | .list ds => some ds.reverse
  | _ => none
def revT : D → Option D
  | .tuple ds => if ds.length ≤ 100000 then some (.tuple ds.reverse) else none
  | _ => none
theorem RpA.reverse {K : Fr_} {H : Hp} : ∀ {xs : List V} {ds : List D}, RpA K H xs ds → RpA K H xs.reverse ds.reverse
  | _, _, .nil => .nil
  | _, _, .cons h r => by
    rw [List.reverse_cons, List.reverse_cons]
    exact (RpA.reverse r).snoc h
theorem df_revL {a : Expr} {m : Option D} {k : Nat} {p1 p2 p3 pos : Pos} (h : DW X c Γ a m) : DF X c Γ (.Subscript a (.Slice none none (some (.UnaryOp .USub (.Constant (.int 1) k p1) p2)) p3) pos) (m.bind revL) := fun d hd σ H Q E kq => by
  obtain ⟨x, e1, e2⟩ := Option.bind_eq_some_iff.mp hd
  unfold revL at e2
  split at e2
  · cases e2
    refine sE_of (pe_revL (pe_s a)) (h _ e1 σ H _ E fun v H1 s1 r1 => ?_)
    obtain ⟨b, xs, rfl, hq, r⟩ := r1.list
    exact ⟨b, xs, rfl, hq, fun p hp => kq p _ _ (s1.free hp) (s1.trans (Same.new hp)) upd_same (r.reverse.mono (.of_same (Same.new hp)))⟩
  · cases e2
theorem fm_congr {α β : Type} {f g : α → Option β} : ∀ {l : List α}, (∀ a ∈ l, f a = g a) → l.filterMap f = l.filterMap g
  | [], _ => rfl
  | a :: r, h => by
    rw [List.filterMap_cons, List.filterMap_cons, h a List.mem_cons_self, fm_congr fun b hb => h b (List.mem_cons_of_mem _ hb)]
theorem rev_pick (xs : Array Value) : ((List.range xs.size).filterMap fun (m : Nat) => xs[(((xs.size : Int) - 1) + (m : Int) * (-1)).toNat]?).toArray = xs.toList.reverse.toArray := by
  have e : (List.range xs.size).filterMap (fun (m : Nat) => xs[(((xs.size : Int) - 1) + (m : Int) * (-1)).toNat]?) = ((List.range xs.size).map fun m => xs.size - 1 - m).filterMap (xs[·]?) := by
    rw [List.filterMap_map]
    refine fm_congr fun m hm => ?_
    have := List.mem_range.mp hm
    have e2 : (((xs.size : Int) - 1) + (m : Int) * (-1)).toNat = xs.size - 1 - m := by omega
    show xs[_]? = xs[_]?
    rw [e2]
  rw [e, PySem.W.krv_range, List.filterMap_reverse, PySem.W.krv_all]
section
variable {prog : Program} {w : World} {A : Around} {E : Value → Shared → Prop} {s : Shared}
theorem sliceApplied_rev {sl : Addr} {vl vu vs : Value} {n : Nat} {Q : Int × Int × Nat → Shared → Prop} (hs : s.heap.IsSliceOf sl vl vu vs) (pl : IsPart vl none) (pu : IsPart vu none) (ps : IsPart vs (some (-1)))
    (h : Q ((n : Int) - 1, -1, n) s) : wpAny (model prog w) A (Builtin.Slice.sliceApplied (.ref sl) (pure (n : Int))) Q E s := by
  obtain ⟨os, hos, hcs, hds⟩ := id hs
  unfold Builtin.Slice.sliceApplied Builtin.Slice.sliceFields
  refine wpAny_bind (wpAny_bind (wpAny_field hos hds (x := vl) rfl (wpAny_bind (wpAny_field hos hds (x := vu) rfl (wpAny_bind (wpAny_field hos hds (x := vs) rfl (wpAny_pure ?_)))))))
  refine wpAny_bind (HT.slicePart_ ps ?_)
  show wpAny _ _ (if ((-1 : Int) == 0) = true then _ else _) _ _ s
  rw [if_neg (by decide)]
  refine wpAny_bind (HT.slicePart_ pl (wpAny_bind (HT.slicePart_ pu (wpAny_bind (wpAny_pure ?_)))))
  show wpAny _ _ (match Builtin.Slice.sliceAdjust none none (-1) (n : Int) with | (lo, hi) => pure (lo, (-1 : Int), Builtin.Slice.slicePlaces lo hi (-1))) _ _ s
  have e1 : Builtin.Slice.sliceAdjust none none (-1) (n : Int) = ((n : Int) - 1, -1) := rfl
  rw [e1]
  show wpAny _ _ (pure ((n : Int) - 1, (-1 : Int), Builtin.Slice.slicePlaces ((n : Int) - 1) (-1) (-1))) _ _ s
  have e2 : Builtin.Slice.slicePlaces ((n : Int) - 1) (-1) (-1) = n := by
    unfold Builtin.Slice.slicePlaces
    rw [if_neg (by decide)]
    by_cases h0 : n = 0
    · subst h0
      rfl
    · rw [if_pos (by omega), show (- -1 : Int) = 1 by decide, Int.ediv_one]
      omega
  rw [e2]
  exact wpAny_pure h
theorem getItem_tuple_rev {t sl : Addr} {items : Array Value} {vl vu vs : Value} {Q : Value → Shared → Prop} (ht : IsTup s.heap t items) (hs : s.heap.IsSliceOf sl vl vu vs) (pl : IsPart vl none) (pu : IsPart vu none) (ps : IsPart vs (some (-1)))
    (h : Q (.ref s.heap.objs.size) { s with heap := s.heap.push { cls := .type "tuple", data := .seq items.toList.reverse.toArray } })
    (hsz : items.size ≤ sizeLine) : wpAny (model prog w) A (getItem (.ref t) (.ref sl)) Q E s := by
  have htake : sizeOk (.seq items.toList.reverse.toArray) := by
    show items.toList.reverse.toArray.size ≤ sizeLine
    rw [List.size_toArray, List.length_reverse, Array.length_toList]
    exact hsz
  obtain ⟨os, hos, hcs, hds⟩ := id hs
  have hTs : s.TypeIs (.ref sl) "slice" := ⟨os, hos, hcs⟩
  unfold getItem
  try with_reducible refine wpAny_holding ?_
  first | refine wpAny_bind (wpAny_pure ?_) | skip
  refine wpAny_bind (wpAny_sequenceKey ht.typeIs (by decide) ?_)
  refine wpAny_bind (wpAny_callSpecial?_slot (name := Str.ofString "__getitem__") ht.typeIs PyProof.Rows.slot_tuple_getitem
    (wpAny_call_entry PyProof.Rows.slot_tuple_getitem ht.typeIs PyProof.Rows.entry_tuple_getitem ?_ (PyProof.Rows.args_tuple_getitem _ _)))
  show wpAny _ _ (Builtin.Tuple.tupleItemsOf (.ref t) >>= _) _ _ s
  refine wpAny_bind (PyProof.Rows.tupleItemsOf_ ht ?_)
  refine wpAny_bind (wpAny_typeOf hTs ?_)
  rw [if_pos (by decide)]
  refine wpAny_bind (sliceApplied_rev hs pl pu ps ?_)
  have hno : ¬ ((((items.size : Int) - 1) == 0 && (-1 : Int) == 1 && items.size == items.size) = true) := by
    intro q
    rw [Bool.and_eq_true, Bool.and_eq_true] at q
    exact absurd q.1.2 (by decide)
  show wpAny _ _ (if (((items.size : Int) - 1) == 0 && (-1 : Int) == 1 && items.size == items.size) = true then _ else _) _ _ s
  rw [if_neg hno, rev_pick]
  first
    | exact wpAny_bind (m := Builtin.Tuple.tupleExact _) (wpAny_newObj_type (wpAny_pure ⟨_, rfl, wpAny_pure h⟩) htake)
    | exact wpAny_bind (m := Builtin.Tuple.tupleExact _) (wpAny_newObj_type (wpAny_bind (wpAny_pure (wpAny_pure ⟨_, rfl, wpAny_pure h⟩))) htake)
    | exact wpAny_bind (wpAny_bind (m := Builtin.Tuple.tupleExact _) (wpAny_newObj_type (wpAny_pure (wpAny_pure ⟨_, rfl, wpAny_pure h⟩)) htake))
    | exact wpAny_bind (wpAny_bind (m := Builtin.Tuple.tupleExact _) (wpAny_newObj_type (wpAny_pure ⟨_, rfl, wpAny_pure h⟩) htake))
end
def tRevT (K : PySem.W.Frag) (te : TE) : TE := fun σ H Q => te σ H fun x H1 => ∃ a xs, x = .ref a ∧ SqT K H1 a xs ∧ ∀ p u, H1 p = none → isPT u xs.reverse → Q (.ref p) (upd H1 p u)
theorem pe_revT {e : Expr} {te : TE} {k : Nat} {p1 p2 p3 pos : Pos} (he : PE X e te) : PE X (.Subscript e (.Slice none none (some (.UnaryOp .USub (.Constant (.int 1) k p1) p2)) p3) pos) (tRevT X.K te) := by
  refine ⟨fun pins s σ H Q I h => ?_⟩
  refine Subscript_ (thn (he.run pins s σ H _ I h) fun v s1 ⟨x, H1, I1, r1, q1⟩ => ?_)
  obtain ⟨a, xs, ex, hx, q⟩ := q1
  subst ex
  cases r1
  have hst : PO X (some (.UnaryOp .USub (.Constant (.int 1) k p1) p2)) (tPart (tUn (rU fun i => .int (-i)) (tC (.int 1)))) := po_some (pe_un un_neg pe_int)
  refine wpAny_Slice (thn (po_none.run pins s1 σ H1 (fun o H2 => o = none ∧ H2 = H1) I1 ⟨rfl, rfl⟩) fun vl s2 ⟨l, H2, I2, pl, el, e2⟩ => ?_)
  subst el e2
  refine thn (po_none.run pins s2 σ H2 (fun o H3 => o = none ∧ H3 = H2) I2 ⟨rfl, rfl⟩) fun vu s3 ⟨u, H3, I3, pu, eu, e3⟩ => ?_
  subst eu e3
  refine thn (hst.run pins s3 σ H3 (fun o H4 => o = some (-1) ∧ H4 = H3) I3 ⟨1, rfl, -1, rfl, rfl, rfl⟩) fun vs s4 ⟨o, H4, I4, ps, eo, e4⟩ => ?_
  subst eo e4
  have I5 : Inv X pins σ H4 { s4 with heap := s4.heap.push { cls := .type "slice", data := .fields #[vl, vu, vs] } } := I4.kept (t' := s4.toks) fun b ob q => Heap.get?_push_of_some _ q
  obtain ⟨its, r, ht, hz⟩ := I5.tuple hx
  have hlen := r.length
  show wpAny (model X.prog X.w) X.A (subscriptTail e (.Slice none none (some (.UnaryOp .USub (.Constant (.int 1) k p1) p2)) p3) (.ref a) (.ref s4.heap.objs.size)) (EP X pins σ Q) X.xe { s4 with heap := s4.heap.push { cls := .type "slice", data := .fields #[vl, vu, vs] } }
  refine tail_any (ops := [.ref a, .ref s4.heap.objs.size]) ht.typeIs PyProof.Rows.slot_tuple_getitem.lookup ?_ (by with_unfolding_all rfl)
  refine getItem_tuple_rev ht (Heap.IsSliceOf.new _ vl vu vs) pl pu ps ?_ (by rw [List.size_toArray]; omega)
  obtain ⟨u, hu, hu2⟩ := isPT_any (o := { cls := .type "tuple", data := .seq its.toArray.toList.reverse.toArray }) xs.reverse rfl
  refine ⟨.ref _, _, I5.laid (t' := s4.toks) (o := u) (fun b ob q => Heap.get?_push_of_some _ q) (Nat.le_refl _) (isPT_ok hu2 ?_ ?_), rfl, q _ _ (I5.hok.fresh (Nat.le_refl _)) hu⟩
  · exact Heap.get?_push_size _ rfl
  · exact ⟨by rw [List.length_reverse]; exact hz, _, r.reverse, IsTup.new _ _⟩
theorem de_revT {a : Expr} {m : Option D} {k : Nat} {p1 p2 p3 pos : Pos} (h : DE X c Γ a m) : DE X c Γ (.Subscript a (.Slice none none (some (.UnaryOp .USub (.Constant (.int 1) k p1) p2)) p3) pos) (m.bind revT) := fun d hd σ H Q E kq => by
  obtain ⟨x, e1, e2⟩ := Option.bind_eq_some_iff.mp hd
  unfold revT at e2
  split at e2
  · split at e2
    · cases e2
      refine sE_of (pe_revT (pe_s a)) (h _ e1 σ H _ E fun v H1 s1 r1 => ?_)
      obtain ⟨b, xs, rfl, hq, r⟩ := RpW.tuple (.st r1)
      exact ⟨b, xs, rfl, hq, fun p u hp hu => kq _ _ (s1.trans (Same.new hp)) (.tup (.of hu upd_same) (r.reverse.mono (.of_same (Same.new hp))))⟩
    · cases e2
  · cases e2
end
end DL

set_option Elab.async false
set_option linter.all false
set_option maxRecDepth 100000
set_option maxHeartbeats 2000000
set_option autoImplicit false
namespace DL
open PySem PySem.Spec PyProof.Rows L2
/-! ### more plain facts about the mirrors' parts -/
@[simp] theorem dIx_t0 (x : D) (r : List D) : dIx (.tuple (x :: r)) (.int 0) = some x := by
  show atI (x :: r) (0 : Int) = _
  unfold atI
  rw [show ixN (x :: r).length (0 : Int) = some 0 from ixN_nat (k := 0) (by simp)]
  rfl
@[simp] theorem dIx_t1 (x y : D) (r : List D) : dIx (.tuple (x :: y :: r)) (.int 1) = some y := by
  show atI (x :: y :: r) (1 : Int) = _
  unfold atI
  rw [show ixN (x :: y :: r).length (1 : Int) = some 1 from ixN_nat (k := 1) (by simp)]
  rfl
@[simp] theorem dIx_t2 (x y z : D) (r : List D) : dIx (.tuple (x :: y :: z :: r)) (.int 2) = some z := by
  show atI (x :: y :: z :: r) (2 : Int) = _
  unfold atI
  rw [show ixN (x :: y :: z :: r).length (2 : Int) = some 2 from ixN_nat (k := 2) (by simp)]
  rfl
@[simp] theorem dIx_t3 (x y z w : D) (r : List D) : dIx (.tuple (x :: y :: z :: w :: r)) (.int 3) = some w := by
  show atI (x :: y :: z :: w :: r) (3 : Int) = _
  unfold atI
  rw [show ixN (x :: y :: z :: w :: r).length (3 : Int) = some 3 from ixN_nat (k := 3) (by simp)]
  rfl
@[simp] theorem dIx_l0 (x : D) (r : List D) : dIx (.list (x :: r)) (.int 0) = some x := by
  show atI (x :: r) (0 : Int) = _
  unfold atI
  rw [show ixN (x :: r).length (0 : Int) = some 0 from ixN_nat (k := 0) (by simp)]
  rfl
@[simp] theorem dIx_l1 (x y : D) (r : List D) : dIx (.list (x :: y :: r)) (.int 1) = some y := by
  show atI (x :: y :: r) (1 : Int) = _
  unfold atI
  rw [show ixN (x :: y :: r).length (1 : Int) = some 1 from ixN_nat (k := 1) (by simp)]
  rfl
@[simp] theorem dIx_l2 (x y z : D) (r : List D) : dIx (.list (x :: y :: z :: r)) (.int 2) = some z := by
  show atI (x :: y :: z :: r) (2 : Int) = _
  unfold atI
  rw [show ixN (x :: y :: z :: r).length (2 : Int) = some 2 from ixN_nat (k := 2) (by simp)]
  rfl
theorem ixN_m1 (n : Nat) : ixN (n + 1) (-1) = some n := by rw [ixN_last (by omega)]; rfl
theorem atI_last {α : Type} (r : List α) (x : α) : atI (r ++ [x]) (-1) = some x := by
  unfold atI
  rw [show ixN (r ++ [x]).length (-1) = some r.length by rw [List.length_append]; exact ixN_m1 _]
  simp
@[simp] theorem dIx_last_l (r : List D) (x : D) : dIx (.list (r ++ [x])) (.int (-1)) = some x := atI_last r x
@[simp] theorem dIx_last_t (r : List D) (x : D) : dIx (.tuple (r ++ [x])) (.int (-1)) = some x := atI_last r x
@[simp] theorem dTuple_l (xs : List D) : dTuple [.list xs] = some (.tuple xs) := rfl
@[simp] theorem dTuple_t (xs : List D) : dTuple [.tuple xs] = some (.tuple xs) := rfl
@[simp] theorem dList_l (xs : List D) : dList [.list xs] = some xs := rfl
@[simp] theorem dList_t (xs : List D) : dList [.tuple xs] = some xs := rfl
@[simp] theorem dInt_i (x : Int) : dInt [.int x] = some (.int x) := rfl
@[simp] theorem dInt_b (x : Bool) : dInt [.bool x] = some (.int (if x then 1 else 0)) := rfl
@[simp] theorem dIs_n (x : D) : dIs x .none = some (.bool (isN x)) := by cases x <;> rfl
@[simp] theorem dIsNot_n (x : D) : dIsNot x .none = some (.bool (!isN x)) := by cases x <;> rfl
@[simp] theorem dIs_bb (a b : Bool) : dIs (.bool a) (.bool b) = some (.bool (decide (a = b))) := rfl
@[simp] theorem dIsNot_bb (a b : Bool) : dIsNot (.bool a) (.bool b) = some (.bool (!decide (a = b))) := rfl
@[simp] theorem isN_none : isN .none = true := rfl
@[simp] theorem isN_int (x : Int) : isN (.int x) = false := rfl
@[simp] theorem isN_str (x : Str) : isN (.str x) = false := rfl
@[simp] theorem isN_bool (x : Bool) : isN (.bool x) = false := rfl
@[simp] theorem isN_tuple (x : List D) : isN (.tuple x) = false := rfl
@[simp] theorem isN_list (x : List D) : isN (.list x) = false := rfl
@[simp] theorem isi_int_i (x : Int) : dIsi "int" (.int x) = some (.bool true) := rfl
@[simp] theorem isi_int_b (x : Bool) : dIsi "int" (.bool x) = some (.bool true) := rfl
@[simp] theorem isi_int_t (x : List D) : dIsi "int" (.tuple x) = some (.bool false) := rfl
@[simp] theorem isi_int_s (x : Str) : dIsi "int" (.str x) = some (.bool false) := rfl
@[simp] theorem isi_int_n : dIsi "int" .none = some (.bool false) := rfl
@[simp] theorem isi_bool_i (x : Int) : dIsi "bool" (.int x) = some (.bool false) := rfl
@[simp] theorem isi_bool_b (x : Bool) : dIsi "bool" (.bool x) = some (.bool true) := rfl
@[simp] theorem isi_tuple_t (x : List D) : dIsi "tuple" (.tuple x) = some (.bool true) := rfl
@[simp] theorem isi_tuple_l (x : List D) : dIsi "tuple" (.list x) = some (.bool false) := rfl
@[simp] theorem isi_tuple_i (x : Int) : dIsi "tuple" (.int x) = some (.bool false) := rfl
@[simp] theorem isi_str_s (x : Str) : dIsi "str" (.str x) = some (.bool true) := rfl
@[simp] theorem isi_str_i (x : Int) : dIsi "str" (.int x) = some (.bool false) := rfl
@[simp] theorem isi_str_t (x : List D) : dIsi "str" (.tuple x) = some (.bool false) := rfl
@[simp] theorem iterS_l (ds : List D) : iterS (.list ds) = some ds := rfl
@[simp] theorem iterS_t (ds : List D) : iterS (.tuple ds) = some ds := rfl
@[simp] theorem iterS_s (z : Str) : iterS (.str z) = some (z.cps.toList.map fun ch => .str ⟨#[ch]⟩) := rfl
@[simp] theorem iterS_d (kvs : List (D × D)) : iterS (.dict kvs) = some (kvs.map (·.1)) := rfl
@[simp] theorem iterT_l (ds : List D) : iterT (.list ds) = some ds := rfl
@[simp] theorem iterT_t (ds : List D) : iterT (.tuple ds) = some ds := rfl
@[simp] theorem seqD_l (x : List D) : seqD (.list x) = some x := rfl
@[simp] theorem seqD_t (x : List D) : seqD (.tuple x) = some x := rfl
@[simp] theorem dSl_t (lo hi : Option Int) (ds : List D) : dSl lo hi (.tuple ds) = some (.tuple (cutD ds lo hi)) := rfl
@[simp] theorem dSl_l (lo hi : Option Int) (ds : List D) : dSl lo hi (.list ds) = some (.list (cutD ds lo hi)) := rfl
@[simp] theorem dSlL_l (lo hi : Option Int) (ds : List D) : dSlL lo hi (.list ds) = some (cutD ds lo hi) := rfl
@[simp] theorem dSlT_t (lo hi : Option Int) (ds : List D) : dSlT lo hi (.tuple ds) = some (.tuple (cutD ds lo hi)) := rfl
@[simp] theorem slO_s (g : Option Int → Option Int → D → Option D) (x : D) (l h : Option Int) : slO g (some x) (some l) (some h) = g l h x := rfl
@[simp] theorem slF_s (x : D) (l h : Option Int) : slF (some x) (some l) (some h) = dSlL l h x := rfl
@[simp] theorem plusF_s (x y : D) : plusF (some x) (some y) = dPlusL x y := rfl
@[simp] theorem cut_from1 {α : Type} (ds : List α) : cutD ds (some 1) none = ds.drop 1 := cut_from ds 1
@[simp] theorem cut_from2 {α : Type} (ds : List α) : cutD ds (some 2) none = ds.drop 2 := cut_from ds 2
@[simp] theorem cut_to1 {α : Type} (ds : List α) : cutD ds none (some 1) = ds.take 1 := cut_to ds 1
@[simp] theorem cut_to2 {α : Type} (ds : List α) : cutD ds none (some 2) = ds.take 2 := cut_to ds 2
@[simp] theorem cut_to3 {α : Type} (ds : List α) : cutD ds none (some 3) = ds.take 3 := cut_to ds 3
@[simp] theorem cut_m1 {α : Type} (ds : List α) : cutD ds none (some (-1)) = ds.dropLast := by
  unfold cutD HT.sIx
  simp [List.dropLast_eq_take]
  congr 1
  omega
@[simp] theorem dZip2_tt (xs ys : List D) : dZip2 [.tuple xs, .tuple ys] = some (zip2L xs ys) := rfl
@[simp] theorem dZip2_ll (xs ys : List D) : dZip2 [.list xs, .list ys] = some (zip2L xs ys) := rfl
@[simp] theorem dZip2_tl (xs ys : List D) : dZip2 [.tuple xs, .list ys] = some (zip2L xs ys) := rfl
@[simp] theorem dZip2_lt (xs ys : List D) : dZip2 [.list xs, .tuple ys] = some (zip2L xs ys) := rfl
@[simp] theorem zip2L_nil (ys : List D) : zip2L [] ys = [] := rfl
@[simp] theorem zip2L_nil' (ys : List D) : zip2L ys [] = [] := by simp [zip2L]
@[simp] theorem zip2L_cons (x y : D) (xs ys : List D) : zip2L (x :: xs) (y :: ys) = .tuple [x, y] :: zip2L xs ys := rfl
theorem lt_str (a b : Str) : PySem.W.dataLt (.str a) (.str b) = decide (a.cps.toList < b.cps.toList) := PySem.W.dataLt_str a b
@[simp] theorem dLt_ss (a b : Str) : dLt (.str a) (.str b) = some (.bool (decide (a.cps.toList < b.cps.toList))) := by
  unfold dLt
  rw [show ordOk (.str a) (.str b) = true from rfl, if_pos rfl, lt_str]
/-- rows that rise -/
theorem rise_lc : ∀ (x : D) (r : List D), (x :: r).Pairwise (fun a b => dLt a b = some (.bool true)) → lcF (un2 some some) (fun _ : D × D => some true) (fun p : D × D => bin dLt (some p.1) (some p.2)) (zip2L (x :: r) r) = some (r.map fun _ => .bool true)
  | _, [], _ => rfl
  | x, y :: r, h => by
    obtain ⟨h1, h2⟩ := List.pairwise_cons.mp h
    rw [zip2L_cons]
    show ((un2 some some (.tuple [x, y])).bind _) = _
    rw [show un2 some some (.tuple [x, y]) = some (x, y) from rfl, Option.bind_some, Option.bind_some, if_pos rfl]
    rw [show (fun p : D × D => bin dLt (some p.1) (some p.2)) (x, y) = some (.bool true) from h1 y List.mem_cons_self, Option.bind_some, rise_lc y r h2]
    rfl
/-! effects -/
@[simp] theorem liftX_s {T α : Type} (m : T → Option α) (t : T) : liftX m t = (m t).map fun d => (d, t) := rfl
@[simp] theorem consX_s {T : Type} (m : T → Option (D × T)) (ms : T → Option (List D × T)) (t : T) : consX m ms t = (m t).bind fun p => (ms p.2).map fun q => (p.1 :: q.1, q.2) := rfl
@[simp] theorem binX_s {T : Type} (g : D → D → Option D) (a b : T → Option (D × T)) (t : T) : binX g a b t = (a t).bind fun p => (b p.2).bind fun q => (g p.1 q.1).map fun z => (z, q.2) := rfl
@[simp] theorem isBX_s {T : Type} (m : T → Option (D × T)) (t : T) : isBX m t = (m t).bind fun p => (isB p.1).map fun b => (b, p.2) := rfl
@[simp] theorem andTX_s {T : Type} (a b : T → Option (Bool × T)) (t : T) : andTX a b t = (a t).bind fun p => if p.1 then b p.2 else some (false, p.2) := rfl
@[simp] theorem orTX_s {T : Type} (a b : T → Option (Bool × T)) (t : T) : orTX a b t = (a t).bind fun p => if p.1 then some (true, p.2) else b p.2 := rfl
@[simp] theorem notTX_s {T : Type} (a : T → Option (Bool × T)) (t : T) : notTX a t = (a t).map fun p => (!p.1, p.2) := rfl
@[simp] theorem andVX_s {T : Type} (a b : T → Option (D × T)) (t : T) : andVX a b t = (a t).bind fun p => (isB p.1).bind fun x => if x then b p.2 else some (.bool false, p.2) := rfl
@[simp] theorem iteX_s {T α : Type} (t : T → Option (Bool × T)) (a b : T → Option (α × T)) (s : T) : iteX t a b s = (t s).bind fun p => if p.1 then a p.2 else b p.2 := rfl
@[simp] theorem lenOkX_s {T : Type} (m : T → Option (List D × T)) (t : T) : lenOkX m t = (m t).bind fun p => if p.1.length ≤ 100000 then some p else none := rfl
@[simp] theorem tupX_s {T : Type} (m : T → Option (List D × T)) (t : T) : tupX m t = (lenOkX m t).map fun p => (.tuple p.1, p.2) := rfl
@[simp] theorem appX_s {T α : Type} (g : List D → Option α) (m : T → Option (List D × T)) (t : T) : appX g m t = (m t).bind fun p => (g p.1).map fun z => (z, p.2) := rfl
@[simp] theorem bindX_s {T α β : Type} (m : T → Option (α × T)) (g : α → Option β) (t : T) : bindX m g t = (m t).bind fun p => (g p.1).map fun z => (z, p.2) := rfl
@[simp] theorem bindX'_s {T α β : Type} (m : T → Option (α × T)) (g : α → T → Option β) (t : T) : bindX' m g t = (m t).bind fun p => (g p.1 p.2).map fun z => (z, p.2) := rfl
@[simp] theorem two_s {T α β : Type} (a : T → Option (α × T)) (b : T → Option (β × T)) (t : T) : two a b t = (a t).bind fun p => (b p.2).map fun q => ((p.1, q.1), q.2) := rfl
@[simp] theorem three_s {T α β γ : Type} (a : T → Option (α × T)) (b : T → Option (β × T)) (d : T → Option (γ × T)) (t : T) : three a b d t = (a t).bind fun p => (b p.2).bind fun q => (d q.2).map fun r => ((p.1, q.1, r.1), r.2) := rfl
@[simp] theorem slX_s {T : Type} (g : Option Int → Option Int → D → Option D) (a : T → Option (D × T)) (lo hi : T → Option (Option Int × T)) (t : T) : slX g a lo hi t = (a t).bind fun p => (lo p.2).bind fun l => (hi l.2).bind fun h => (g l.1 h.1 p.1).map fun z => (z, h.2) := rfl
/-! ### equality of data without bools -/
mutual
/-- data in which no bool, no dict stands -/
def noB : D → Bool
  | .none => true
  | .bool _ => false
  | .int _ => true
  | .str _ => true
  | .list xs => noBs xs
  | .tuple xs => noBs xs
  | .dict _ => false
def noBs : List D → Bool
  | [] => true
  | x :: xs => noB x && noBs xs
end
theorem noBs_iff : ∀ {xs : List D}, noBs xs = true ↔ ∀ x ∈ xs, noB x = true
  | [] => by simp [noBs]
  | x :: xs => by simp [noBs, noBs_iff (xs := xs)]
mutual
theorem eqv_eq : ∀ (a b : D), noB a = true → noB b = true → PyData.eqv a b = true → a = b
  | .none, b, _, hb, h => by cases b <;> first | rfl | (simp [PyData.eqv] at h)
  | .int x, b, _, hb, h => by cases b <;> simp [PyData.eqv, noB] at h hb; rw [h]
  | .str x, b, _, hb, h => by cases b <;> simp [PyData.eqv, noB] at h hb; rw [h]
  | .list xs, b, ha, hb, h => by
    cases b <;> simp only [PyData.eqv, noB, Bool.false_eq_true] at h hb ha
    rw [eqvAll_eq _ _ ha hb h]
  | .tuple xs, b, ha, hb, h => by
    cases b <;> simp only [PyData.eqv, noB, Bool.false_eq_true] at h hb ha
    rw [eqvAll_eq _ _ ha hb h]
  | .bool _, _, ha, _, _ => by simp [noB] at ha
  | .dict _, _, ha, _, _ => by simp [noB] at ha
theorem eqvAll_eq : ∀ (a b : List D), noBs a = true → noBs b = true → PyData.eqvAll a b = true → a = b
  | [], [], _, _, _ => rfl
  | [], _ :: _, _, _, h => by simp [PyData.eqvAll] at h
  | _ :: _, [], _, _, h => by simp [PyData.eqvAll] at h
  | x :: xs, y :: ys, ha, hb, h => by
    simp only [PyData.eqvAll, noBs, Bool.and_eq_true] at h ha hb
    rw [eqv_eq x y ha.1 hb.1 h.1, eqvAll_eq xs ys ha.2 hb.2 h.2]
end
theorem nice_int {i : Int} (h : i.natAbs < 10 ^ 18) : nice (.int i) = true := by simp only [nice, decide_eq_true_eq]; exact h
theorem eqv_iff {a b : D} (na : nice a = true) (ha : noB a = true) (hb : noB b = true) : PyData.eqv a b = cl (a = b) := by
  by_cases h : a = b
  · rw [cl_iff.mpr h, h]
    exact eqv_refl b (h ▸ na)
  · rw [show cl (a = b) = false by cases q : cl (a = b) with | false => rfl | true => exact absurd (cl_iff.mp q) h]
    cases q : PyData.eqv a b with
    | false => rfl
    | true => exact absurd (eqv_eq a b ha hb q) h
theorem dEq_self {a : D} (na : nice a = true) (da : a.depth ≤ 64) : dEq a a = some (.bool true) := by rw [dEq_nice na na da da, eqv_refl a na]
theorem dNe_self {a : D} (na : nice a = true) (da : a.depth ≤ 64) : dNe a a = some (.bool false) := by rw [dNe_nice na na da da, eqv_refl a na]; rfl
theorem dEq_cl {a b : D} (na : nice a = true) (nb : nice b = true) (ha : noB a = true) (hb : noB b = true) (da : a.depth ≤ 64) (db : b.depth ≤ 64) : dEq a b = some (.bool (cl (a = b))) := by rw [dEq_nice na nb da db, eqv_iff na ha hb]
theorem dNe_cl {a b : D} (na : nice a = true) (nb : nice b = true) (ha : noB a = true) (hb : noB b = true) (da : a.depth ≤ 64) (db : b.depth ≤ 64) : dNe a b = some (.bool (!cl (a = b))) := by rw [dNe_nice na nb da db, eqv_iff na ha hb]
/-! ### sorted -/
/-- what is strictly ascending, and as what is sorted but for the sequence, is it sorted -/
theorem sorted_unique {l m : List D} (hp : l.Perm m) (hs : m.Pairwise fun a b => PySem.W.dataLt a b = true) : sortedD l = m := by
  have T := PySem.W.sortLe_total (PyProof.Rows.listOrd PyProof.Rows.itemOrd) false (fun d : D => PySem.W.keyToks d)
  unfold sortedD
  have hp2 : (l.mergeSort (PySem.W.dataLe false fun d => d)).Perm m := (List.mergeSort_perm l _).trans hp
  have asym : ∀ a b : D, PySem.W.dataLt a b = true → PySem.W.dataLt b a = false := fun a b h => by
    cases q : PySem.W.dataLt b a with
    | false => rfl
    | true =>
      have z := PyProof.Rows.lex_trans (O := PyProof.Rows.itemOrd) _ _ _ h q
      rw [show PyProof.Rows.lexLt PyProof.Rows.itemOrd (PySem.W.keyToks a) (PySem.W.keyToks a) = false from PyProof.Rows.lex_irrefl _] at z
      cases z
  have le_of : ∀ a b : D, PySem.W.dataLt a b = true → PySem.W.dataLe false (fun d : D => d) a b = true := fun a b h => by
    show (!PySem.W.dataLt b a) = true
    rw [asym a b h]; rfl
  refine List.Perm.eq_of_pairwise (le := fun a b => PySem.W.dataLe false (fun d : D => d) a b = true) (fun a b ha hb h1 h2 => ?_) (List.pairwise_mergeSort (fun a b c => T.trans a b c) (fun a b => ?_) l) (hs.imp fun h => le_of _ _ h) hp2
  · have ha' := hp2.mem_iff.mp ha
    have n1 : PySem.W.dataLt b a = false := by have z : (!PySem.W.dataLt b a) = true := h1; simpa using z
    have n2 : PySem.W.dataLt a b = false := by have z : (!PySem.W.dataLt a b) = true := h2; simpa using z
    rcases Classical.em (a = b) with e | e
    · exact e
    · exfalso
      have key : ∀ {m : List D}, m.Pairwise (fun a b => PySem.W.dataLt a b = true) → a ∈ m → b ∈ m → PySem.W.dataLt a b = true ∨ PySem.W.dataLt b a = true := fun {m} hm => by
        induction hm with
        | nil => intro h; cases h
        | @cons x r hx _ ih =>
          intro h1 h2
          rcases List.mem_cons.mp h1 with e1 | h1
          · rcases List.mem_cons.mp h2 with e2 | h2
            · exact absurd (e1.trans e2.symm) e
            · exact .inl (e1 ▸ hx _ h2)
          · rcases List.mem_cons.mp h2 with e2 | h2
            · exact .inr (e2 ▸ hx _ h1)
            · exact ih h1 h2
      rcases key hs ha' hb with q | q
      · rw [n2] at q; cases q
      · rw [n1] at q; cases q
  · have z := T.total a b
    simpa [PySem.W.dataLe] using z
end DL

set_option Elab.async false
set_option linter.all false
set_option maxRecDepth 100000
set_option maxHeartbeats 2000000
set_option autoImplicit false
namespace DL
open PySem PySem.Spec PyProof.Rows L2
section
variable {X : Cx} {c : FC} {Γ : Env_} {N B R : Type} {GN : N → Env_} {GB : B → Env_} {RK : R → V → Hp → Prop} {rest : List Stmt}
/-! ### x op= e, x an int -/
def IpD (X : Cx) (op : Operator) (g : D → D → Option D) : Prop := PIp X op fun v u H Q => ∃ x y z, RpW X.K H v x ∧ RpW X.K H u y ∧ g x y = some z ∧ ∀ w H', Same H H' → Rp X.K H' w z → Q w H'
def iAdd : D → D → Option D
  | .int a, .int b => some (.int (a + b))
  | _, _ => none
def iSub : D → D → Option D
  | .int a, .int b => some (.int (a - b))
  | _, _ => none
noncomputable def iMul : D → D → Option D
  | .int a, .int b => if fitsM a && fitsM b then some (.int (a * b)) else none
  | _, _ => none
theorem ipd_add : IpD X .Add iAdd := by
  intro pins s σ H x y v u Q I r1 r2 ⟨a, b, z, h1, h2, e, k⟩
  unfold iAdd at e
  split at e
  · cases e
    have e1 := h1.int
    have e2 := h2.int
    subst e1 e2
    exact ip_add pins s σ H _ _ v u Q I r1 r2 ⟨_, _, rfl, rfl, k _ H (Same.refl H) (.int _)⟩
  · cases e
theorem ipd_sub : IpD X .Sub iSub := by
  intro pins s σ H x y v u Q I r1 r2 ⟨a, b, z, h1, h2, e, k⟩
  unfold iSub at e
  split at e
  · cases e
    have e1 := h1.int
    have e2 := h2.int
    subst e1 e2
    exact ip_sub pins s σ H _ _ v u Q I r1 r2 ⟨_, _, rfl, rfl, k _ H (Same.refl H) (.int _)⟩
  · cases e
theorem ipd_mul : IpD X .Mult iMul := by
  intro pins s σ H x y v u Q I r1 r2 ⟨a, b, z, h1, h2, e, k⟩
  unfold iMul at e
  split at e
  · split at e
    · rename_i hb
      cases e
      have e1 := h1.int
      have e2 := h2.int
      subst e1 e2
      obtain ⟨t, rfl⟩ := r1
      obtain ⟨t', rfl⟩ := r2
      obtain ⟨f1, f2⟩ := Bool.and_eq_true_iff.mp hb
      exact imul_int (hm := (wide_mul (fitsM_lt f1) (fitsM_lt f2) (by decide) (by decide) (by decide)).ok) ⟨.int _, H, I.tok _, ⟨_, rfl⟩, k _ H (Same.refl H) (.int _)⟩
    · cases e
  · cases e
theorem db_aug (i : Nat) {g : D → D → Option D} {op : Operator} {d : D} {x : Str} {e : Expr} {me : Option D} {mr : D → Option (Fl N B R)} {pos pos' : Pos} (hN : X.N.Nodup) (ho : IpD X op g) (he : DW X c Γ e me) (hr : ∀ q, DB X c GN GB RK (Γ.set i (.imm q)) rest (mr q)) (h : Γ[i]? = some (.imm d) := by rfl) (hi : X.N[i]? = some x := by rfl) (hx : Loc X.env.scope x := by first | exact Or.inl rfl | exact Or.inr rfl)
    (hm : (c.M.map (·.1)).contains i = false := by rfl) (hf : X.fn x = true ∨ X.env.scope.names.lookup x = some .local := by first | exact .inl rfl | exact .inr rfl) :
    DB X c GN GB RK Γ (.AugAssign (.Name x pos') op e pos :: rest) ((me.bind (g d)).bind mr) := fun o h' σ H D E f => by
  obtain ⟨q, e0, e2⟩ := Option.bind_eq_some_iff.mp h'
  obtain ⟨y, e1, e3⟩ := Option.bind_eq_some_iff.mp e0
  refine sSs_cons (ps_aug hN hi hx (pe_s e) ho hf) ?_
  obtain ⟨v, ev, rv⟩ := E.cells i _ h
  refine ⟨v, ev, he y e1 σ H _ E fun u H1 s1 r1 => ⟨d, y, q, .st (rv.mono (.of_same s1)), r1, e3, fun w H2 s2 r2 => ?_⟩⟩
  exact hr q o e2 _ H2 D (((E.same s1).same s2).setImm r2 (noPin hm)) (f.mono (.of_same (s1.trans s2)))
end
end DL

set_option Elab.async false
set_option linter.all false
set_option maxRecDepth 100000
set_option maxHeartbeats 2000000
set_option autoImplicit false
/-! ### list(zip(a, b)): each pair is kept, so that each next one is made anew -/
namespace DL
open PySem PySem.Spec PyProof.Rows L2
section
variable {prog : Program} {w : World} {A : Around} {E : Value → Shared → Prop} {s : Shared} {z TI TO i1 i2 T : Addr} {fp1 fp2 : List Addr} {n1 n2 i : Nat} {P1 P2 : Nat → Value → Prop} {St1 St2 : Nat → Heap → Prop} {b : Bool}
abbrev ZipAt (h : Heap) (z TI TO T : Addr) (b : Bool) : Prop := h.get? z = some { cls := .type "zip", data := .fields #[rawInt T, .bool b, .bool false, .ref TI, .ref TO] }
theorem zip_busy_free (hz : ZipAt s.heap z TI TO T b) {oT : Obj} (hT : s.heap.get? T = some oT) {Q : Bool → Shared → Prop} (h : ∀ h', ZipAt h' z TI TO T true → Heap.SameBut z s.heap h' → Q false { s with heap := h' }) :
    wpAny (model prog w) A (Builtin.SmallTypes.ownedTupleIsFree (.ref z)) Q E s := by
  unfold Builtin.SmallTypes.ownedTupleIsFree
  refine wpAny_bind (wpAny_field hz rfl (x := rawInt T) rfl ?_)
  show wpAny _ _ (loadIfAlive (Int.toNat (T : Int)) >>= _) _ _ _
  rw [Int.toNat_natCast]
  refine wpAny_bind (PySem.W.kdx_alive hT ?_)
  rw [if_neg (by simp)]
  refine wpAny_bind (wpAny_field hz rfl (x := .bool b) rfl ?_)
  cases b with
  | true =>
    rw [if_neg (by decide)]
    exact wpAny_pure (h s.heap hz (Heap.SameBut.refl _ _))
  | false =>
    rw [if_pos (by decide)]
    refine wpAny_bind (wpAny_setField_rec hz (by simp) fun h' hz' hs' => ?_)
    exact wpAny_pure (h h' hz' hs')
/-- what a pair's turn leaves -/
theorem zip_busy_item {Q : Value → Shared → Prop} (S : ZipSep2 z TI TO i1 i2 fp1 fp2) (D1 : Draws prog w A i1 fp1 n1 P1 St1) (D2 : Draws prog w A i2 fp2 n2 P2 St2) (hz : ZipAt s.heap z TI TO T b) {oT : Obj} (hT : s.heap.get? T = some oT)
    (hTI : IsTupOf2 s.heap TI (.ref i1) (.ref i2)) (st1 : St1 i s.heap) (st2 : St2 i s.heap) (hl1 : i < n1) (hl2 : i < n2)
    (hQ : ∀ x1 x2 h' tk, P1 i x1 → P2 i x2 → ZipAt h' z TI TO T true → St1 (i + 1) h' → St2 (i + 1) h' → IsTupOf2 h' s.heap.objs.size x1 x2 → h'.objs.size = s.heap.objs.size + 1 →
      (∀ c o, c ≠ z → c ≠ i1 → c ≠ i2 → s.heap.get? c = some o → h'.get? c = some o) → Q (.ref s.heap.objs.size) { s with heap := h', toks := tk }) :
    wpAny (model prog w) A (Builtin.«zip.__next__» ⟨[.ref z], []⟩) (fun fin s' => ∃ v, fin = .done (.ret v) ∧ Q v s') E s := by
  obtain ⟨hp, g, d, tk0, os⟩ := s
  show wpAny _ _ (field (.ref z) 2 >>= _) _ _ _
  refine wpAny_bind (wpAny_field hz rfl (x := .bool false) rfl ?_)
  show wpAny _ _ (field (.ref z) 3 >>= _) _ _ _
  refine wpAny_bind (wpAny_field hz rfl (x := .ref TI) rfl ?_)
  refine wpAny_bind (wpAny_seqItems hTI rfl ?_)
  show wpAny _ _ (Builtin.SmallTypes.ownedTupleIsFree (.ref z) >>= _) _ _ _
  refine wpAny_bind (zip_busy_free hz hT fun g0 hz0 hs0 => ?_)
  replace hs0 : Heap.SameBut z hp g0 := hs0
  rw [if_neg Bool.false_ne_true]
  refine wpAny_bind ?_
  rw [show (#[Value.ref i1, Value.ref i2] : Array Value) = [Value.ref i1, Value.ref i2].toArray from rfl, List.forIn_toArray]
  simp only [List.forIn_cons, List.forIn_nil]
  refine wpAny_bind (wpAny_bind (wpAny_holding ?_))
  show wpAny _ _ (Builtin.SmallTypes.nextOf (.ref i1) >>= _) _ _ ⟨g0, g, d, tk0, os⟩
  refine wpAny_bind (D1.item i _ _ _ hl1 (D1.over st1 hs0 S.zf1) fun x1 p1 tk1 hx1 sn1 hp1 => wpAny_pure ?_)
  replace hp1 : Heap.SameBut i1 g0 p1 := hp1
  refine wpAny_pure ?_
  refine wpAny_bind (wpAny_bind (wpAny_holding ?_))
  show wpAny _ _ (Builtin.SmallTypes.nextOf (.ref i2) >>= _) _ _ ⟨p1, g, d, tk1, os⟩
  refine wpAny_bind (D2.item i _ _ _ hl2 (D2.over (D2.over st2 hs0 S.zf2) hp1 S.sep1_2) fun x2 p2 tk2 hx2 sn2 hp2 => wpAny_pure ?_)
  replace hp2 : Heap.SameBut i2 p1 p2 := hp2
  refine wpAny_pure (wpAny_pure ?_)
  show wpAny _ _ (newTuple [x1, x2] >>= _) _ _ ⟨p2, g, d, tk2, os⟩
  refine wpAny_bind (wpAny_newTuple ?_)
  have hsz : p2.objs.size = hp.objs.size := by rw [hp2.1, hp1.1, hs0.1]
  have up : ∀ c o, c ≠ z → c ≠ i1 → c ≠ i2 → hp.get? c = some o → (p2.push { cls := .type "tuple", data := .seq #[x1, x2] }).get? c = some o := fun c o cz c1 c2 e => Heap.get?_push_of_some _ (hp2.extBut _ _ c2 (hp1.extBut _ _ c1 (hs0.extBut _ _ cz e)))
  have hz2 : ZipAt (p2.push { cls := .type "tuple", data := .seq #[x1, x2] }) z TI TO T true := Heap.get?_push_of_some _ (hp2.extBut _ _ S.zi2 (hp1.extBut _ _ S.zi1 hz0))
  refine wpAny_pure ⟨_, rfl, ?_⟩
  show Q (.ref p2.objs.size) ⟨p2.push { cls := .type "tuple", data := .seq #[x1, x2] }, g, d, tk2, os⟩
  rw [hsz]
  refine hQ x1 x2 _ tk2 hx1 hx2 hz2 (D1.frame _ _ _ (D1.over sn1 hp2 S.sep2_1) fun b hb o e => Heap.get?_push_of_some _ e) (D2.frame _ _ _ sn2 fun b hb o e => Heap.get?_push_of_some _ e) ?_ ?_ up
  · show (p2.push _).get? hp.objs.size = _
    rw [← hsz]
    exact Heap.get?_push_size _ rfl
  · show (p2.push _).objs.size = hp.objs.size + 1
    rw [Heap.size_push, hsz]
/-- .. and the end -/
theorem zip_busy_end {Q : PySem.Fin → Shared → Prop} (S : ZipSep2 z TI TO i1 i2 fp1 fp2) (D1 : Draws prog w A i1 fp1 n1 P1 St1) (D2 : Draws prog w A i2 fp2 n2 P2 St2) (hz : ZipAt s.heap z TI TO T b) {oT : Obj} (hT : s.heap.get? T = some oT)
    (hTI : IsTupOf2 s.heap TI (.ref i1) (.ref i2)) (st1 : St1 i s.heap) (st2 : St2 i s.heap) (hle1 : i ≤ n1) (hle2 : i ≤ n2) (hend : i = n1 ∨ i = n2)
    (hE : ∀ h' tk e, (∀ c o, c ≠ z → c ≠ i1 → c ≠ i2 → s.heap.get? c = some o → h'.get? c = some o) → (∃ o, h'.get? e = some o ∧ o.cls = .type "StopIteration") → E (.ref e) { s with heap := h', toks := tk }) :
    wpAny (model prog w) A (Builtin.«zip.__next__» ⟨[.ref z], []⟩) Q E s := by
  obtain ⟨hp, g, d, tk0, os⟩ := s
  show wpAny _ _ (field (.ref z) 2 >>= _) _ _ _
  refine wpAny_bind (wpAny_field hz rfl (x := .bool false) rfl ?_)
  show wpAny _ _ (field (.ref z) 3 >>= _) _ _ _
  refine wpAny_bind (wpAny_field hz rfl (x := .ref TI) rfl ?_)
  refine wpAny_bind (wpAny_seqItems hTI rfl ?_)
  show wpAny _ _ (Builtin.SmallTypes.ownedTupleIsFree (.ref z) >>= _) _ _ _
  refine wpAny_bind (zip_busy_free hz hT fun g0 hz0 hs0 => ?_)
  replace hs0 : Heap.SameBut z hp g0 := hs0
  rw [if_neg Bool.false_ne_true]
  refine wpAny_bind ?_
  rw [show (#[Value.ref i1, Value.ref i2] : Array Value) = [Value.ref i1, Value.ref i2].toArray from rfl, List.forIn_toArray]
  simp only [List.forIn_cons, List.forIn_nil]
  refine wpAny_bind (wpAny_bind (wpAny_holding ?_))
  show wpAny _ _ (Builtin.SmallTypes.nextOf (.ref i1) >>= _) _ _ ⟨g0, g, d, tk0, os⟩
  by_cases hlt1 : i < n1
  · refine wpAny_bind (D1.item i _ _ _ hlt1 (D1.over st1 hs0 S.zf1) fun x1 p1 tk1 hx1 sn1 hp1 => wpAny_pure ?_)
    replace hp1 : Heap.SameBut i1 g0 p1 := hp1
    have hi2 : i = n2 := by omega
    refine wpAny_pure ?_
    refine wpAny_bind (wpAny_bind (wpAny_holding ?_))
    show wpAny _ _ (Builtin.SmallTypes.nextOf (.ref i2) >>= _) _ _ ⟨p1, g, d, tk1, os⟩
    refine wpAny_bind (D2.done ⟨p1, g, d, tk1, os⟩ _ _ (by rw [← hi2]; exact D2.over (D2.over st2 hs0 S.zf2) hp1 S.sep1_2) fun q e hq he => ?_)
    replace hq : Heap.ExtBut i2 p1 q := hq
    exact hE q tk1 e (fun c o cz c1 c2 x => hq _ _ c2 (hp1.extBut _ _ c1 (hs0.extBut _ _ cz x))) he
  · have hi1 : i = n1 := by omega
    refine wpAny_bind (D1.done ⟨g0, g, d, tk0, os⟩ _ _ (by rw [← hi1]; exact (D1.over st1 hs0 S.zf1)) fun q e hq he => ?_)
    replace hq : Heap.ExtBut i1 g0 q := hq
    exact hE q tk0 e (fun c o cz c1 c2 x => hq _ _ c1 (hs0.extBut _ _ cz x)) he
theorem zip_busy_next {Q : Option Value → Shared → Prop} (S : ZipSep2 z TI TO i1 i2 fp1 fp2) (D1 : Draws prog w A.in1 i1 fp1 n1 P1 St1) (D2 : Draws prog w A.in1 i2 fp2 n2 P2 St2) (hz : ZipAt s.heap z TI TO T b) {oT : Obj} (hT : s.heap.get? T = some oT)
    (hTI : IsTupOf2 s.heap TI (.ref i1) (.ref i2)) (st1 : St1 i s.heap) (st2 : St2 i s.heap) (hl1 : i < n1) (hl2 : i < n2)
    (hQ : ∀ x1 x2 h' tk, P1 i x1 → P2 i x2 → ZipAt h' z TI TO T true → St1 (i + 1) h' → St2 (i + 1) h' → IsTupOf2 h' s.heap.objs.size x1 x2 → h'.objs.size = s.heap.objs.size + 1 →
      (∀ c o, c ≠ z → c ≠ i1 → c ≠ i2 → s.heap.get? c = some o → h'.get? c = some o) → Q (some (.ref s.heap.objs.size)) { s with heap := h', toks := tk }) :
    wpAny (model prog w) A (pyNext (.ref z)) Q E s := by
  have ty : s.TypeIs (.ref z) "zip" := ⟨_, hz, rfl⟩
  unfold pyNext
  refine wpAny_bind (wpAny_attempt (wpAny_callSpecial?_slot (name := Str.ofString "__next__") ty F.slot_zip_next (wpAny_call_entry F.slot_zip_next ty F.entry_zip_next ?_ (F.args_zip_next_1 _))))
  exact zip_busy_item S D1 D2 hz hT hTI st1 st2 hl1 hl2 fun x1 x2 h' tk y1 y2 b1 d1 d2 b5 b6 b7 => wpAny_pure (hQ x1 x2 h' tk y1 y2 b1 d1 d2 b5 b6 b7)
theorem zip_busy_done {Q : Option Value → Shared → Prop} (S : ZipSep2 z TI TO i1 i2 fp1 fp2) (D1 : Draws prog w A.in1 i1 fp1 n1 P1 St1) (D2 : Draws prog w A.in1 i2 fp2 n2 P2 St2) (hz : ZipAt s.heap z TI TO T b) {oT : Obj} (hT : s.heap.get? T = some oT)
    (hTI : IsTupOf2 s.heap TI (.ref i1) (.ref i2)) (st1 : St1 i s.heap) (st2 : St2 i s.heap) (hle1 : i ≤ n1) (hle2 : i ≤ n2) (hend : i = n1 ∨ i = n2)
    (hQ : ∀ h' tk, (∀ c o, c ≠ z → c ≠ i1 → c ≠ i2 → s.heap.get? c = some o → h'.get? c = some o) → Q none { s with heap := h', toks := tk }) : wpAny (model prog w) A (pyNext (.ref z)) Q E s := by
  have ty : s.TypeIs (.ref z) "zip" := ⟨_, hz, rfl⟩
  unfold pyNext
  refine wpAny_bind (wpAny_attempt (wpAny_callSpecial?_slot (name := Str.ofString "__next__") ty F.slot_zip_next (wpAny_call_entry F.slot_zip_next ty F.entry_zip_next (zip_busy_end S D1 D2 hz hT hTI st1 st2 hle1 hle2 hend fun h' tk e hk he => ?_) (F.args_zip_next_1 _))))
  obtain ⟨o, ho, hc⟩ := he
  refine wpAny_bind (wpAny_isInstance (T := "StopIteration") (b := true) ⟨o, ho, hc⟩ isSubtype_stop ?_)
  exact wpAny_pure (hQ _ _ hk)
/-- the pairs made so far -/
structure ZG (P1 P2 : Nat → Value → Prop) (lo : Addr) (h : Heap) (as : List Addr) : Prop where
  rise : as.Pairwise (· < ·)
  above : ∀ a ∈ as, lo < a
  pairs : ∀ (j : Nat) (a : Addr), as[j]? = some a → ∃ x y, P1 j x ∧ P2 j y ∧ IsTupOf2 h a x y
theorem ZG.keep {P1 P2 : Nat → Value → Prop} {lo : Addr} {h h' : Heap} {as : List Addr} (g : ZG P1 P2 lo h as) (k : ∀ b o, lo < b → h.get? b = some o → h'.get? b = some o) : ZG P1 P2 lo h' as :=
  ⟨g.rise, g.above, fun j a hj => let ⟨x, y, p, q, e⟩ := g.pairs j a hj; ⟨x, y, p, q, k _ _ (g.above a (List.mem_of_getElem? hj)) e⟩⟩
theorem ZG.there {P1 P2 : Nat → Value → Prop} {lo : Addr} {h : Heap} {as : List Addr} (g : ZG P1 P2 lo h as) {a : Addr} (ha : a ∈ as) : a < h.objs.size := by
  obtain ⟨j, hj⟩ := List.mem_iff_getElem?.mp ha
  obtain ⟨x, y, _, _, e⟩ := g.pairs j a hj
  exact Heap.lt_size e
theorem ZG.snoc {P1 P2 : Nat → Value → Prop} {lo : Addr} {h : Heap} {as : List Addr} {a : Addr} {x y : Value} (g : ZG P1 P2 lo h as) (ha : lo < a) (hn : ∀ b ∈ as, b < a) (hx : P1 as.length x) (hy : P2 as.length y) (e : IsTupOf2 h a x y) : ZG P1 P2 lo h (as ++ [a]) := by
  refine ⟨?_, fun b hb => ?_, fun j b hj => ?_⟩
  · rw [List.pairwise_append]
    exact ⟨g.rise, List.pairwise_singleton _ _, fun b hb d hd => by rw [List.mem_singleton.mp hd]; exact hn b hb⟩
  · rcases List.mem_append.mp hb with hb | hb
    · exact g.above b hb
    · rw [List.mem_singleton.mp hb]; exact ha
  · rcases Nat.lt_trichotomy j as.length with q | q | q
    · rw [List.getElem?_append_left q] at hj
      exact g.pairs j b hj
    · subst q
      have : a = b := by simpa using hj
      subst this
      exact ⟨x, y, hx, hy, e⟩
    · rw [List.getElem?_eq_none (by rw [List.length_append, List.length_singleton]; omega)] at hj
      cases hj
/-- the zip between two turns; S: the list that is made -/
def ZSt (St1 St2 : Nat → Heap → Prop) (z TI TO i1 i2 S : Addr) (i : Nat) (h : Heap) : Prop :=
  IsTupOf2 h TI (.ref i1) (.ref i2) ∧ St1 i h ∧ St2 i h ∧ ((∃ a1 a2, IsZip h z TI TO .none ∧ IsTupOf2 h TO a1 a2) ∨ ∃ (T : Addr) (b : Bool) (oT : Obj), S < T ∧ ZipAt h z TI TO T b ∧ h.get? T = some oT)
structure ZLow (z TI TO i1 i2 S : Addr) (fp1 fp2 : List Addr) : Prop where
  z : z < S
  TI : TI < S
  TO : TO < S
  i1 : i1 < S
  i2 : i2 < S
  fp1 : ∀ b ∈ fp1, b < S
  fp2 : ∀ b ∈ fp2, b < S
theorem ZSt.keep {A : Around} {S : Addr} {h h' : Heap} (D1 : Draws prog w A i1 fp1 n1 P1 St1) (D2 : Draws prog w A i2 fp2 n2 P2 St2) (l : ZLow z TI TO i1 i2 S fp1 fp2) (st : ZSt St1 St2 z TI TO i1 i2 S i h) (k : ∀ b o, b ≠ S → h.get? b = some o → h'.get? b = some o) : ZSt St1 St2 z TI TO i1 i2 S i h' := by
  obtain ⟨h1, h2, h3, h4⟩ := st
  refine ⟨k _ _ (Nat.ne_of_lt l.TI) h1, D1.frame _ _ _ h2 fun b hb o e => k b o (Nat.ne_of_lt (l.fp1 b hb)) e, D2.frame _ _ _ h3 fun b hb o e => k b o (Nat.ne_of_lt (l.fp2 b hb)) e, ?_⟩
  rcases h4 with ⟨a1, a2, q1, q2⟩ | ⟨T, b, oT, q0, q1, q2⟩
  · exact .inl ⟨a1, a2, k _ _ (Nat.ne_of_lt l.z) q1, k _ _ (Nat.ne_of_lt l.TO) q2⟩
  · exact .inr ⟨T, b, oT, q0, k _ _ (Nat.ne_of_lt l.z) q1, k _ _ (Nat.ne_of_gt q0) q2⟩
theorem lz_item {S : Addr} {Q : Option Value → Shared → Prop} (Z : ZipSep2 z TI TO i1 i2 fp1 fp2) (D1 : Draws prog w A.in1 i1 fp1 n1 P1 St1) (D2 : Draws prog w A.in1 i2 fp2 n2 P2 St2) (l : ZLow z TI TO i1 i2 S fp1 fp2) (st : ZSt St1 St2 z TI TO i1 i2 S i s.heap) (hS : S < s.heap.objs.size) (hl1 : i < n1) (hl2 : i < n2)
    (hQ : ∀ x1 x2 h' tk, P1 i x1 → P2 i x2 → ZSt St1 St2 z TI TO i1 i2 S (i + 1) h' → IsTupOf2 h' s.heap.objs.size x1 x2 → (∀ c o, c ≠ z → c ≠ TO → c ≠ i1 → c ≠ i2 → s.heap.get? c = some o → h'.get? c = some o) → Q (some (.ref s.heap.objs.size)) { s with heap := h', toks := tk }) :
    wpAny (model prog w) A (pyNext (.ref z)) Q E s := by
  obtain ⟨h1, h2, h3, h4⟩ := st
  rcases h4 with ⟨a1, a2, q1, q2⟩ | ⟨T, b, oT, q0, q1, q2⟩
  · exact wpAny_pyNext_zipD2_item Z D1 D2 q1 h1 q2 h2 h3 hl1 hl2 fun x1 x2 h' tk y1 y2 b1 b2 d1 d2 b5 b6 hk =>
      hQ x1 x2 h' tk y1 y2 ⟨hk _ _ Z.TIz Z.TITO Z.TIi1 Z.TIi2 h1, d1, d2, .inr ⟨s.heap.objs.size, false, _, hS, b1, b5⟩⟩ b5 hk
  · exact zip_busy_next Z D1 D2 q1 q2 h1 h2 h3 hl1 hl2 fun x1 x2 h' tk y1 y2 b1 d1 d2 b5 b6 hk =>
      hQ x1 x2 h' tk y1 y2 ⟨hk _ _ Z.TIz Z.TIi1 Z.TIi2 h1, d1, d2, .inr ⟨T, true, oT, q0, b1, hk _ _ (Nat.ne_of_gt (Nat.lt_trans l.z q0)) (Nat.ne_of_gt (Nat.lt_trans l.i1 q0)) (Nat.ne_of_gt (Nat.lt_trans l.i2 q0)) q2⟩⟩ b5 fun c o c1 _ c3 c4 e => hk c o c1 c3 c4 e
theorem lz_done {S : Addr} {Q : Option Value → Shared → Prop} (Z : ZipSep2 z TI TO i1 i2 fp1 fp2) (D1 : Draws prog w A.in1 i1 fp1 n1 P1 St1) (D2 : Draws prog w A.in1 i2 fp2 n2 P2 St2) (st : ZSt St1 St2 z TI TO i1 i2 S i s.heap) (hi : i = min n1 n2)
    (hQ : ∀ h' tk, (∀ c o, c ≠ z → c ≠ TO → c ≠ i1 → c ≠ i2 → s.heap.get? c = some o → h'.get? c = some o) → Q none { s with heap := h', toks := tk }) : wpAny (model prog w) A (pyNext (.ref z)) Q E s := by
  obtain ⟨h1, h2, h3, h4⟩ := st
  rcases h4 with ⟨a1, a2, q1, q2⟩ | ⟨T, b, oT, q0, q1, q2⟩
  · exact wpAny_pyNext_zipD2_end Z D1 D2 q1 h1 q2 h2 h3 (by omega) (by omega) (by omega) hQ
  · exact zip_busy_done Z D1 D2 q1 q2 h1 h2 h3 (by omega) (by omega) (by omega) fun h' tk hk => hQ h' tk fun c o c1 _ c3 c4 e => hk c o c1 c3 c4 e
end
section
variable {prog : Program} {w : World} {A : Around} {s : Shared} {R : Result → Shared → Prop} {z TI TO i1 i2 : Addr} {fp1 fp2 : List Addr} {n1 n2 : Nat} {P1 P2 : Nat → Value → Prop} {St1 St2 : Nat → Heap → Prop}
theorem lz_loop {S : Addr} (Z : ZipSep2 z TI TO i1 i2 fp1 fp2) (D1 : Draws prog w A.in1.in1 i1 fp1 n1 P1 St1) (D2 : Draws prog w A.in1.in1 i2 fp2 n2 P2 St2) (l : ZLow z TI TO i1 i2 S fp1 fp2) (hn : min n1 n2 ≤ sizeLine) (res : Value) {h₁ : Heap}
    (hR : ∀ h' tk acc c as, (∀ b o, b ≠ S → b ≠ z → b ≠ TO → b ≠ i1 → b ≠ i2 → h₁.get? b = some o → h'.get? b = some o) → h'.get? S = some { cls := .type "list", dict := none, data := .seq acc c, slots := #[] } → as.length = min n1 n2 → ZG P1 P2 S h' as →
      acc.toList = as.map Value.ref → R (.ok (.ret res)) { s with heap := h', toks := tk }) :
    ∀ (k i : Nat) (h : Heap) (tk c : Nat) (acc : Array Value) (as : List Addr), min n1 n2 - i = k → i ≤ min n1 n2 → ZSt St1 St2 z TI TO i1 i2 S i h → (∀ b o, b ≠ S → b ≠ z → b ≠ TO → b ≠ i1 → b ≠ i2 → h₁.get? b = some o → h.get? b = some o) →
      h.get? S = some { cls := .type "list", dict := none, data := .seq acc c, slots := #[] } → acc.toList = as.map Value.ref → as.length = i → ZG P1 P2 S h as →
      codeAny (model prog w) A (.builtin "list.extend.loop" ⟨[.ref S, .ref z, res], []⟩) R { s with heap := h, toks := tk } := by
  intro k
  induction k with
  | zero =>
    intro i h tk c acc as hk hi st keep hS ha hl g
    refine codeAny_builtin PySem.F.entry_extend_loop ?_
    rw [Around.under_plainId PySem.F.plain_extend_loop _]
    show wpAny _ A.in1 (pyNext (.ref z) >>= _) _ _ _
    refine wpAny_bind (lz_done (s := { s with heap := h, toks := tk }) (A := A.in1) Z D1 D2 st (by omega) fun h' tk' he => ?_)
    refine wpAny_pure (hR h' tk' acc c as (fun b o a1 a2 a3 a4 a5 e => he b o a2 a3 a4 a5 (keep b o a1 a2 a3 a4 a5 e)) (he S _ (Nat.ne_of_gt l.z) (Nat.ne_of_gt l.TO) (Nat.ne_of_gt l.i1) (Nat.ne_of_gt l.i2) hS) (by omega) (g.keep fun b o hb e => ?_) ha)
    exact he b o (Nat.ne_of_gt (Nat.lt_trans l.z hb)) (Nat.ne_of_gt (Nat.lt_trans l.TO hb)) (Nat.ne_of_gt (Nat.lt_trans l.i1 hb)) (Nat.ne_of_gt (Nat.lt_trans l.i2 hb)) e
  | succ k ih =>
    intro i h tk c acc as hk hi st keep hS ha hl g
    have hsz : acc.size = i := by rw [← Array.length_toList, ha, List.length_map, hl]
    have hSl : S < h.objs.size := Heap.lt_size hS
    refine codeAny_builtin PySem.F.entry_extend_loop ?_
    rw [Around.under_plainId PySem.F.plain_extend_loop _]
    show wpAny _ A.in1 (pyNext (.ref z) >>= _) _ _ _
    refine wpAny_bind (lz_item (s := { s with heap := h, toks := tk }) (A := A.in1) Z D1 D2 l st hSl (by omega) (by omega) fun x1 x2 h' tk' p1 p2 st' ht hkp => ?_)
    dsimp only at ht hkp ⊢
    have hS' := hkp S _ (Nat.ne_of_gt l.z) (Nat.ne_of_gt l.TO) (Nat.ne_of_gt l.i1) (Nat.ne_of_gt l.i2) hS
    have up : ∀ b o, b ≠ S → h'.get? b = some o → (h'.update S (Obj.mapSeq (·.push (Value.ref h.objs.size)))).get? b = some o := fun b o hb e => (Heap.get?_update_other _ _ (Ne.symm hb)).trans e
    show wpAny _ A.in1 (updateSeq S (·.push (Value.ref h.objs.size)) >>= _) _ _ _
    refine wpAny_bind ?_
    have g' : ZG P1 P2 S (h'.update S (Obj.mapSeq (·.push (Value.ref h.objs.size)))) (as ++ [h.objs.size]) := by
      refine ZG.snoc (g.keep fun b o hb e => up b o (Nat.ne_of_gt hb) (hkp b o (Nat.ne_of_gt (Nat.lt_trans l.z hb)) (Nat.ne_of_gt (Nat.lt_trans l.TO hb)) (Nat.ne_of_gt (Nat.lt_trans l.i1 hb)) (Nat.ne_of_gt (Nat.lt_trans l.i2 hb)) e)) hSl (fun b hb => g.there hb) (x := x1) (y := x2) (by rw [hl]; exact p1) (by rw [hl]; exact p2) (up _ _ (Nat.ne_of_gt hSl) ht)
    refine wpAny_updateSeq hS' rfl (wpAny_pure ⟨plainId_quiet PySem.F.plain_extend_loop _, ih (i + 1) _ tk' _ (acc.push (Value.ref h.objs.size)) (as ++ [h.objs.size]) (by omega) (by omega) (st'.keep D1 D2 l up)
      (fun b o a1 a2 a3 a4 a5 e => up b o a1 (hkp b o a2 a3 a4 a5 (keep b o a1 a2 a3 a4 a5 e))) (Heap.get?_update_self _ hS' rfl) (by rw [Array.toList_push, ha, List.map_append]; rfl) (by rw [List.length_append, hl]; rfl) g'⟩) (by rw [hsz]; omega) (by
        show (acc.push (Value.ref h.objs.size)).size ≤ sizeLine + 1
        rw [Array.size_push, hsz]; omega)
theorem zip_nolen : typeLookup (.type "zip") "__len__" = pure none := by rw [typeLookup_type, builtinLookup_eq_fast]; kernel_rfl
theorem zip_nohint : typeLookup (.type "zip") "__length_hint__" = pure none := by rw [typeLookup_type, builtinLookup_eq_fast]; kernel_rfl
theorem lz_extend {S : Addr} (Z : ZipSep2 z TI TO i1 i2 fp1 fp2) (D1 : Draws prog w A.in1.in1 i1 fp1 n1 P1 St1) (D2 : Draws prog w A.in1.in1 i2 fp2 n2 P2 St2) (l : ZLow z TI TO i1 i2 S fp1 fp2) (hn : min n1 n2 ≤ sizeLine) (res : Value) {c₀ : Nat} {a1 a2 : Value}
    (hz : IsZip s.heap z TI TO .none) (hTI : IsTupOf2 s.heap TI (.ref i1) (.ref i2)) (hTO : IsTupOf2 s.heap TO a1 a2) (st1 : St1 0 s.heap) (st2 : St2 0 s.heap) (hS : s.heap.get? S = some { cls := .type "list", data := .seq #[] c₀ })
    (hR : ∀ h' tk acc c as, (∀ b o, b ≠ S → b ≠ z → b ≠ TO → b ≠ i1 → b ≠ i2 → s.heap.get? b = some o → h'.get? b = some o) → h'.get? S = some { cls := .type "list", dict := none, data := .seq acc c, slots := #[] } → as.length = min n1 n2 → ZG P1 P2 S h' as →
      acc.toList = as.map Value.ref → R (.ok (.ret res)) { s with heap := h', toks := tk }) :
    wpAny (model prog w) A.in1 (Builtin.List.listExtendWith (.ref S) (.ref z) res)
      (fun fin s' => match fin with | .done f => R (.ok f) s' | .again c' => c'.quiet = true ∧ codeAny (model prog w) A c' R s') (fun e s' => R (.error e) s') s := by
  have ty : s.TypeIs (.ref z) "zip" := ⟨_, hz, rfl⟩
  have st0 : ZSt St1 St2 z TI TO i1 i2 S 0 s.heap := ⟨hTI, st1, st2, .inl ⟨a1, a2, hz, hTO⟩⟩
  have key : ∀ (h : Heap) (c₁ : Nat), (∀ b o, b ≠ S → s.heap.get? b = some o → h.get? b = some o) → h.get? S = some { cls := .type "list", data := .seq #[] c₁ } →
      codeAny (model prog w) A (.builtin "list.extend.loop" ⟨[.ref S, .ref z, res], []⟩) R { s with heap := h } := fun h c₁ hk hS₁ =>
    lz_loop (s := s) (h₁ := s.heap) Z D1 D2 l hn res hR (min n1 n2) 0 h s.toks c₁ #[] [] (Nat.sub_zero _) (Nat.zero_le _) (st0.keep D1 D2 l hk) (fun b o q1 _ _ _ _ e => hk b o q1 e) hS₁ rfl rfl
      ⟨List.Pairwise.nil, (fun _ ha => nomatch ha), (fun j a hj => by simp at hj)⟩
  unfold Builtin.List.listExtendWith
  refine wpAny_bind (wpAny_typeOf (T := "zip") ty ?_)
  have q1 : Builtin.List.listSameRef (.ref S) (.ref z) = false := by simp [Builtin.List.listSameRef, Nat.ne_of_gt l.z]
  have q2 : (Value.type "zip" == Value.type "list") = false := by decide
  have q3 : (Value.type "zip" == Value.type "tuple") = false := by decide
  simp only [q1, q2, q3, Bool.or_false, Bool.false_eq_true, if_false]
  refine wpAny_bind (wpAny_pyIter_zip hz ?_)
  refine wpAny_bind (wpAny_holding ?_)
  unfold Builtin.List.listLengthHint
  refine wpAny_bind (wpAny_specialOf ty zip_nolen ?_)
  show wpAny _ A.in1 (specialOf (Value.ref z) (Str.ofString "__length_hint__") >>= _) _ _ _
  refine wpAny_bind (wpAny_specialOf ty zip_nohint ?_)
  refine wpAny_pure ?_
  refine wpAny_ite_split (fun _ => ?_) (fun _ => wpAny_pure ⟨plainId_quiet PySem.F.plain_extend_loop _, key _ c₀ (fun b o _ e => e) hS⟩)
  refine wpAny_bind (wpAny_rule ?_)
  refine wpAny_bind ?_
  show wpAny _ _ (updateSeq S (·.push .none) >>= fun _ => updateSeq S (·.pop)) _ _ _
  refine wpAny_bind (wpAny_updateSeq hS rfl ?_)
  have hS₂ := Heap.get?_update_self (Obj.mapSeq (·.push Value.none)) hS rfl
  refine wpAny_updateSeq (hz := by seq_fits) hS₂ rfl ?_
  have hS₃ := Heap.get?_update_self (Obj.mapSeq (·.pop)) hS₂ rfl
  refine wpAny_pure ⟨plainId_quiet PySem.F.plain_extend_loop _, key _ _ (fun b o hb e => ?_) hS₃⟩
  exact (Heap.get?_update_other _ _ (Ne.symm hb)).trans ((Heap.get?_update_other _ _ (Ne.symm hb)).trans e)
theorem lz_init {S : Addr} (Z : ZipSep2 z TI TO i1 i2 fp1 fp2) (D1 : Draws prog w A.in1.in1 i1 fp1 n1 P1 St1) (D2 : Draws prog w A.in1.in1 i2 fp2 n2 P2 St2) (l : ZLow z TI TO i1 i2 S fp1 fp2) (hn : min n1 n2 ≤ sizeLine) {a1 a2 : Value}
    (hz : IsZip s.heap z TI TO .none) (hTI : IsTupOf2 s.heap TI (.ref i1) (.ref i2)) (hTO : IsTupOf2 s.heap TO a1 a2) (st1 : St1 0 s.heap) (st2 : St2 0 s.heap) (hS : s.heap.get? S = some { cls := .type "list", data := .seq #[] })
    (hR : ∀ h' tk acc c as, (∀ b o, b ≠ S → b ≠ z → b ≠ TO → b ≠ i1 → b ≠ i2 → s.heap.get? b = some o → h'.get? b = some o) → h'.get? S = some { cls := .type "list", dict := none, data := .seq acc c, slots := #[] } → as.length = min n1 n2 → ZG P1 P2 S h' as →
      acc.toList = as.map Value.ref → R (.ok (.ret .none)) { s with heap := h', toks := tk }) :
    wpAny (model prog w) A.in1 (Builtin.«list.__init__» ⟨[.ref S, .ref z], []⟩)
      (fun fin s' => match fin with | .done f => R (.ok f) s' | .again c' => c'.quiet = true ∧ codeAny (model prog w) A c' R s') (fun e s' => R (.error e) s') s := by
  show wpAny _ _ (do let old ← Builtin.List.listItems (.ref S); Builtin.List.listUpdate (.ref S) (fun _ => #[]); letGo old.toList.reverse; Builtin.List.listExtendWith (.ref S) (.ref z) .none) _ _ s
  refine wpAny_bind ?_
  unfold Builtin.List.listItems
  refine wpAny_bind (wpAny_seqItems hS rfl (wpAny_pure ?_))
  show wpAny _ _ (updateSeq S (fun _ => #[]) >>= fun _ => letGo (#[] : Array Value).toList.reverse >>= fun _ => Builtin.List.listExtendWith (.ref S) (.ref z) .none) _ _ s
  refine wpAny_bind (wpAny_updateSeq hS rfl ?_)
  have hS₂ := Heap.get?_update_self (Obj.mapSeq (fun _ => (#[] : Array Value))) hS rfl
  have oth : ∀ b o, b ≠ S → s.heap.get? b = some o → (s.heap.update S (Obj.mapSeq (fun _ => (#[] : Array Value)))).get? b = some o := fun b o hb e => (Heap.get?_update_other _ _ (Ne.symm hb)).trans e
  refine wpAny_bind (wpAny_letGo ?_)
  refine lz_extend (s := { s with heap := s.heap.update S (Obj.mapSeq (fun _ => (#[] : Array Value))) }) Z D1 D2 l hn .none (oth _ _ (Nat.ne_of_lt l.z) hz) (oth _ _ (Nat.ne_of_lt l.TI) hTI) (oth _ _ (Nat.ne_of_lt l.TO) hTO)
    (D1.frame _ _ _ st1 fun b hb o e => oth b o (Nat.ne_of_lt (l.fp1 b hb)) e) (D2.frame _ _ _ st2 fun b hb o e => oth b o (Nat.ne_of_lt (l.fp2 b hb)) e) hS₂ fun h' tk acc c as hk hS' hl g ha => ?_
  exact hR h' tk acc c as (fun b o q1 q2 q3 q4 q5 e => hk b o q1 q2 q3 q4 q5 (oth b o q1 e)) hS' hl g ha
end
section
variable {prog : Program} {w : World} {A : Around} {E : Value → Shared → Prop} {s : Shared} {z TI TO i1 i2 : Addr} {fp1 fp2 : List Addr} {n1 n2 : Nat} {P1 P2 : Nat → Value → Prop} {St1 St2 : Nat → Heap → Prop}
/-- list(z), z a new zip -/
theorem lz_call {Q : Value → Shared → Prop} (Z : ZipSep2 z TI TO i1 i2 fp1 fp2) (D1 : ∀ A' : Around, A'.handled = none → Draws prog w A' i1 fp1 n1 P1 St1) (D2 : ∀ A' : Around, A'.handled = none → Draws prog w A' i2 fp2 n2 P2 St2) (hh : A.handled = none) (hn : min n1 n2 ≤ sizeLine) {a1 a2 : Value}
    (hz : IsZip s.heap z TI TO .none) (hTI : IsTupOf2 s.heap TI (.ref i1) (.ref i2)) (hTO : IsTupOf2 s.heap TO a1 a2) (st1 : St1 0 s.heap) (st2 : St2 0 s.heap) (hf1 : ∀ b ∈ fp1, b < s.heap.objs.size) (hf2 : ∀ b ∈ fp2, b < s.heap.objs.size)
    (hQ : ∀ h' tk acc c as, (∀ b o, b ≠ z → b ≠ TO → b ≠ i1 → b ≠ i2 → s.heap.get? b = some o → h'.get? b = some o) → h'.get? s.heap.objs.size = some { cls := .type "list", dict := none, data := .seq acc c, slots := #[] } → as.length = min n1 n2 → ZG P1 P2 s.heap.objs.size h' as →
      acc.toList = as.map Value.ref → Q (.ref s.heap.objs.size) { s with heap := h', toks := tk }) :
    wpAny (model prog w) A (call (.type "list") [.ref z]) Q E s := by
  refine callType_codes (Q₁ := fun obj s₁ => obj = .ref s.heap.objs.size ∧ s₁ = { s with heap := s.heap.push { cls := .type "list", data := .seq #[] } }) PySem.F.called_list (PySem.F.typeCall_list_1 _) PySem.F.entry_list_init
    (code_list_new _ ⟨rfl, rfl⟩) fun obj s₁ h₁ => ?_
  obtain ⟨rfl, rfl⟩ := h₁
  have hS : (s.heap.push { cls := .type "list", data := .seq #[] }).get? s.heap.objs.size = some { cls := .type "list", data := .seq #[] } := Heap.get?_push_size _ rfl
  have pu : ∀ b o, s.heap.get? b = some o → (s.heap.push { cls := .type "list", data := .seq #[] }).get? b = some o := fun b o e => Heap.get?_push_of_some _ e
  have l : ZLow z TI TO i1 i2 s.heap.objs.size fp1 fp2 := ⟨Heap.lt_size hz, Heap.lt_size hTI, Heap.lt_size hTO, hf1 _ Z.mem1, hf2 _ Z.mem2, hf1, hf2⟩
  have d1 := D1 A.in1.in1.in1 hh
  have d2 := D2 A.in1.in1.in1 hh
  refine ⟨⟨_, hS, rfl⟩, PySem.F.args_list_init_2 _ _, lz_init (A := A.in1) (s := { s with heap := s.heap.push { cls := .type "list", data := .seq #[] } }) Z d1 d2 l hn (pu _ _ hz) (pu _ _ hTI) (pu _ _ hTO)
    (d1.frame _ _ _ st1 fun b _ o e => pu b o e) (d2.frame _ _ _ st2 fun b _ o e => pu b o e) hS fun h' tk acc c as hk hS' hl g ha => ?_⟩
  exact ⟨rfl, hQ h' tk acc c as (fun b o q2 q3 q4 q5 e => hk b o (Nat.ne_of_lt (Heap.lt_size e)) q2 q3 q4 q5 (pu b o e)) hS' hl g ha⟩
end
/-! ### new objects and a list of them, tracked at once -/
def putU : Hp → List Addr → List HO → Hp
  | H, a :: as, u :: us => putU (upd H a u) as us
  | H, _, _ => H
theorem putU_off {b : Addr} : ∀ (as : List Addr) (us : List HO) (H : Hp), b ∉ as → putU H as us b = H b
  | [], _, _, _ => rfl
  | _ :: _, [], _, _ => rfl
  | a :: as, u :: us, H, h => by
    show putU (upd H a u) as us b = H b
    rw [putU_off as us _ (fun q => h (List.mem_cons_of_mem _ q)), upd_ne (fun q => h (by rw [q]; exact List.mem_cons_self))]
theorem putU_at : ∀ (as : List Addr) (us : List HO) (H : Hp), as.length = us.length → as.Nodup → ∀ (j : Nat) (a : Addr), as[j]? = some a → putU H as us a = us[j]?
  | [], _, _, _, _, j, a, h => by simp at h
  | _ :: _, [], _, h, _, _, _, _ => by cases h
  | a :: as, u :: us, H, h, hn, 0, b, e => by
    have e' : a = b := by simpa using e
    subst e'
    show putU (upd H a u) as us a = some u
    rw [putU_off as us _ (List.nodup_cons.mp hn).1, upd_same]
  | a :: as, u :: us, H, h, hn, j + 1, b, e => by
    have e' : as[j]? = some b := by simpa using e
    have z := putU_at as us (upd H a u) (Nat.succ.inj h) (List.nodup_cons.mp hn).2 j b e'
    show putU (upd H a u) as us b = us[j]?
    exact z
theorem vals_refs : ∀ as : List Addr, Vals (as.map V.ref) (as.map Value.ref)
  | [] => .nil
  | _ :: as => .cons rfl (vals_refs as)
theorem rows_laid {X : Cx} {pins : List (Addr × Obj)} {σ : St} {H : Hp} {s : Shared} {h' : Heap} {tk : Nat} {acc : Array Value} {cc : Nat} {as : List Addr} {us : List HO} {S : Addr} (I : Inv X pins σ H s) (hz : as.length ≤ sizeLine) (hl : as.length = us.length)
    (hk : ∀ b o, s.heap.get? b = some o → h'.get? b = some o) (hSs : s.heap.objs.size ≤ S) (hS : h'.get? S = some { cls := .type "list", dict := none, data := .seq acc cc, slots := #[] }) (hab : ∀ a ∈ as, S < a) (rise : as.Pairwise (· < ·)) (hacc : acc.toList = as.map Value.ref)
    (hu : ∀ (j : Nat) (a : Addr) (u : HO), as[j]? = some a → us[j]? = some u → ∀ H' : Hp, ObjOk X.prog X.w H' h' a u) :
    ∃ H' : Hp, (∀ b o, H b = some o → H' b = some o) ∧ H S = none ∧ H' S = some (.lst (as.map V.ref)) ∧ (∀ (j : Nat) (a : Addr), as[j]? = some a → H' a = us[j]?) ∧ Inv X pins σ H' { s with heap := h', toks := tk } := by
  have hSn : S ∉ as := fun q => Nat.lt_irrefl _ (hab _ q)
  have nd : as.Nodup := rise.imp fun {a b} (h : a < b) => Nat.ne_of_lt h
  have new : ∀ t ∈ as, H t = none := fun t ht => I.hok.fresh (Nat.le_trans hSs (Nat.le_of_lt (hab t ht)))
  have newS : H S = none := I.hok.fresh hSs
  have atP := putU_at as us (upd H S (.lst (as.map V.ref))) hl nd
  have off : ∀ b, b ∉ as → b ≠ S → putU (upd H S (.lst (as.map V.ref))) as us b = H b := fun b h1 h2 => by rw [putU_off as us _ h1, upd_ne h2]
  have low : ∀ b o, s.heap.get? b = some o → b ∉ as ∧ b ≠ S := fun b o e => ⟨fun q => absurd (Heap.lt_size e) (Nat.not_lt.mpr (Nat.le_trans hSs (Nat.le_of_lt (hab b q)))), Nat.ne_of_lt (Nat.lt_of_lt_of_le (Heap.lt_size e) hSs)⟩
  have kp : ∀ b u, H b = some u → putU (upd H S (.lst (as.map V.ref))) as us b = some u := fun b u e => by
    rw [off b (fun q => by rw [new b q] at e; cases e) (fun q => by rw [q, newS] at e; cases e)]
    exact e
  have eS : putU (upd H S (.lst (as.map V.ref))) as us S = some (.lst (as.map V.ref)) := by rw [putU_off as us _ hSn, upd_same]
  refine ⟨putU (upd H S (.lst (as.map V.ref))) as us, kp, newS, eS, atP, ?_⟩
  refine I.call' (ch := []) rfl ⟨fun b o q _ _ _ => hk b o q, fun b o q _ _ _ => ⟨o.slots, hk b o q⟩, fun b o q n _ => ?_, fun b o q _ => ⟨o, hk b o q⟩, fun b xs q => kp b _ q, fun b o u q => kp b _ q, fun b ps q => ⟨#[], by rw [kp b _ q]; simp⟩⟩ (fun b u q => ?_) I.bare fun b q => by simp at q
  · obtain ⟨q1, q2⟩ := low b o q
    rw [off b q1 q2]
    exact n
  · by_cases hb : b ∈ as
    · obtain ⟨j, e1⟩ := List.mem_iff_getElem?.mp hb
      rw [atP j b e1] at q
      exact hu j b u e1 q _
    · by_cases hb2 : b = S
      · rw [hb2] at q ⊢
        rw [eS] at q
        cases q
        refine ⟨by rw [List.length_map]; exact hz, acc.toList, cc, by rw [hacc]; exact vals_refs as, ?_⟩
        rw [Array.toArray_toList]
        exact hS
      · rw [off b hb hb2] at q
        exact (I.hok b u q).stay (fun d v _ y => hk d v y) (fun d y => kp d _ y) fun d xs y => kp d _ y
/-! ### the rule -/
section
variable {X : Cx} {c : FC} {Γ : Env_}
/-- what list(zip(xs, ys)) makes -/
def rLZ (X : Cx) : List V → Hp → VK → Prop := fun vs H Q => ∃ t1 t2 a b xs ys, vs = [.ref a, .ref b] ∧ SqB X.K H t1 a xs ∧ SqB X.K H t2 b ys ∧
  ∀ (H' : Hp) (S : Addr) (as : List Addr), (∀ b o, H b = some o → H' b = some o) → H S = none → H' S = some (.lst (as.map V.ref)) → as.length = min xs.length ys.length → (∀ (j : Nat) (p : Addr) (x y : V), as[j]? = some p → xs[j]? = some x → ys[j]? = some y → ∃ u, isPT u [x, y] ∧ H' p = some u) → Q (.ref S) H'
theorem pe_lzip {e e2 : Expr} {ta : TA} {p p2 pos pos2 : Pos} (hc : X.calm = true) (hgl : Gl X "list") (hl : X.mg "list" = none) (hg : Gl X "zip") (hm : X.mg "zip" = none) (ha : PA X [e, e2] ta) (hs : starEach [e, e2] X.env = (false, eval e X.env) :: starEach [e2] X.env := by rfl) (hpl : (backTo pos2 (starEach [e2] X.env)).any (·.1) = false := by rfl)
    (na : starEach [Expr.Call (.Name "zip" p2) [e, e2] [] pos2] X.env = (false, eval (.Call (.Name "zip" p2) [e, e2] [] pos2) X.env) :: starEach [] X.env := by rfl) :
    PE X (.Call (.Name "list" p) [.Call (.Name "zip" p2) [e, e2] [] pos2] [] pos) (fun σ H Q => ta σ H fun vs H1 => rLZ X vs H1 Q) := by
  refine ⟨fun pins s σ H Q I h => ?_⟩
  refine Call_ (ld_blt I hgl hl boot_list (PyProof.Rows.callWith_type1 (PyProof.Rows.args_cons ?_ na) na))
  refine Call_ (ld_blt I hg hm PyProof.Rows.boot_zip (PyProof.Rows.callWith_type1 (thn (ha.run pos2 pins s σ H _ I h) fun us s1 ⟨vs, H1, I1, r1, q1⟩ => ?_) hs hpl))
  obtain ⟨t1, t2, a, b, xs, ys, rfl, hq1, hq2, q⟩ := q1
  obtain ⟨u1, u2, rfl, ru1, ru2⟩ := vals2 r1
  cases ru1
  cases ru2
  obtain ⟨its, rv, p1, z1, o1, ho1⟩ := inv_seqB I1 hq1
  obtain ⟨its2, rv2, p2', z2, o2, ho2⟩ := inv_seqB I1 hq2
  have l1 : a < s1.heap.objs.size := Heap.lt_size ho1
  have l2 : b < s1.heap.objs.size := Heap.lt_size ho2
  refine zip_begins2 (beginsB t1 a its.toArray) (beginsB t2 b its2.toArray) p1 p2' fun h' hz hTI hTO g1 g2 hsz hk => PyProof.Rows.args_nil ?_
  have Z := zip_sep2 (N := s1.heap.objs.size) (fp1 := [a]) (fp2 := [b]) (fun x hx => by rw [List.mem_singleton.mp hx]; exact l1) (fun x hx => by rw [List.mem_singleton.mp hx]; exact l2)
  have I2 : Inv X pins σ H1 { s1 with heap := h' } := I1.kept (t' := s1.toks) hk
  obtain ⟨its', rv', p1', _, _⟩ := inv_seqB I2 hq1
  obtain ⟨its2', rv2', p2'', _, _⟩ := inv_seqB I2 hq2
  have d1 : ∀ A' : Around, A'.handled = none → Draws X.prog X.w A' s1.heap.objs.size [s1.heap.objs.size, a] its'.toArray.size (fun i v => its'.toArray[i]? = some v) (fun i h => IterB t1 h s1.heap.objs.size a i ∧ SeqB t1 h a its'.toArray) := fun A' h' => drawsB h' t1 _ a (Nat.ne_of_lt l1) _
  have d2 : ∀ A' : Around, A'.handled = none → Draws X.prog X.w A' (s1.heap.objs.size + 1) [s1.heap.objs.size + 1, b] its2'.toArray.size (fun i v => its2'.toArray[i]? = some v) (fun i h => IterB t2 h (s1.heap.objs.size + 1) b i ∧ SeqB t2 h b its2'.toArray) := fun A' h' => drawsB h' t2 _ b (Nat.ne_of_lt (Nat.lt_succ_of_lt l2)) _
  have hmin : min its'.toArray.size its2'.toArray.size = min xs.length ys.length := by rw [List.size_toArray, List.size_toArray, rv'.length, rv2'.length]
  have zx : min xs.length ys.length ≤ sizeLine := Nat.le_trans (Nat.min_le_left _ _) z1
  refine lz_call (s := { s1 with heap := h' }) Z d1 d2 (I1.ok.hd hc) (by rw [hmin]; exact zx) hz hTI hTO ⟨iterB_new g1, p1'⟩ ⟨iterB_new g2, p2''⟩ (fun d hd => ?_) (fun d hd => ?_) fun h2 tk acc cc as hk2 hS hln g hacc => ?_
  · show d < h'.objs.size
    rw [hsz]
    have e' : d = s1.heap.objs.size ∨ d = a := by simpa using hd
    rcases e' with e' | e'
    · rw [e']; exact Nat.lt_add_of_pos_right (by decide)
    · rw [e']; exact Nat.lt_of_lt_of_le l1 (Nat.le_add_right _ _)
  · show d < h'.objs.size
    rw [hsz]
    have e' : d = s1.heap.objs.size + 1 ∨ d = b := by simpa using hd
    rcases e' with e' | e'
    · rw [e']; exact Nat.add_lt_add_left (by decide) _
    · rw [e']; exact Nat.lt_of_lt_of_le l2 (Nat.le_add_right _ _)
  · have hsS : s1.heap.objs.size ≤ h'.objs.size := by omega
    have keepAll : ∀ d o, s1.heap.get? d = some o → h2.get? d = some o := fun d o e => by
      have hd := Heap.lt_size e
      have far : ∀ m : Nat, s1.heap.objs.size + m ≠ d := fun m => Nat.ne_of_gt (Nat.lt_of_lt_of_le hd (Nat.le_add_right _ m))
      exact hk2 d o (fun q => far 4 q.symm) (fun q => far 3 q.symm) (fun q => far 0 q.symm) (fun q => far 1 q.symm) (hk d o e)
    -- each pair's object
    have rows : ∀ (j : Nat) (p : Addr), as[j]? = some p → ∃ x y vx vy, xs[j]? = some x ∧ ys[j]? = some y ∧ RelV x vx ∧ RelV y vy ∧ IsTupOf2 h2 p vx vy := fun j p hj => by
      obtain ⟨vx, vy, q1, q2, q3⟩ := g.pairs j p hj
      have hj' : j < min xs.length ys.length := by rw [← hmin, ← hln]; exact (List.getElem?_eq_some_iff.mp hj).1
      have e1 : xs[j]? = some xs[j] := List.getElem?_eq_getElem (by omega)
      have e2 : ys[j]? = some ys[j] := List.getElem?_eq_getElem (by omega)
      exact ⟨_, _, vx, vy, e1, e2, vals_at rv' e1 q1, vals_at rv2' e2 q2, q3⟩
    have sel : ∃ us : List HO, us.length = as.length ∧ ∀ (j : Nat) (p : Addr) (u : HO), as[j]? = some p → us[j]? = some u → ∃ x y, xs[j]? = some x ∧ ys[j]? = some y ∧ isPT u [x, y] ∧ ∀ H' : Hp, ObjOk X.prog X.w H' h2 p u := by
      have one : ∀ (j : Nat) (p : Addr), as[j]? = some p → ∃ u : HO, ∃ x y, xs[j]? = some x ∧ ys[j]? = some y ∧ isPT u [x, y] ∧ ∀ H' : Hp, ObjOk X.prog X.w H' h2 p u := fun j p hj => by
        obtain ⟨x, y, vx, vy, q1, q2, q3, q4, q5⟩ := rows j p hj
        obtain ⟨u, hu, hu2⟩ := isPT_any (o := { cls := .type "tuple", data := .seq #[vx, vy] }) [x, y] rfl
        exact ⟨u, x, y, q1, q2, hu, fun H' => isPT_ok hu2 q5 ⟨by show 2 ≤ sizeLine; decide, [vx, vy], .cons q3 (.cons q4 .nil), ⟨_, q5, rfl, _, rfl⟩⟩⟩
      refine ⟨(List.range as.length).map fun j => if hj : j < as.length then Classical.choose (one j as[j] (List.getElem?_eq_getElem hj)) else .lst [], by simp, fun j p u hj hu => ?_⟩
      obtain ⟨hlt, e⟩ := List.getElem?_eq_some_iff.mp hj
      have spec := Classical.choose_spec (one j as[j] (List.getElem?_eq_getElem hlt))
      rw [List.getElem?_map, List.getElem?_range hlt, Option.map_some, dif_pos hlt] at hu
      cases hu
      rw [← e]
      exact spec
    obtain ⟨us, hul, hus⟩ := sel
    obtain ⟨H', k1, k2, k3, k4, I3⟩ := rows_laid (tk := tk) (us := us) (S := h'.objs.size) I1 (by rw [hln, hmin]; exact zx) hul.symm keepAll hsS hS g.above g.rise hacc fun j p u hj hu => by
      obtain ⟨_, _, _, _, _, ok⟩ := hus j p u hj hu
      exact ok
    refine ⟨.ref h'.objs.size, H', I3, rfl, q H' _ as k1 k2 k3 (by rw [hln, hmin]) fun j p x y hj hx hy => ?_⟩
    have hlt : j < us.length := by rw [hul]; exact (List.getElem?_eq_some_iff.mp hj).1
    have hu : us[j]? = some us[j] := List.getElem?_eq_getElem hlt
    obtain ⟨x', y', q1, q2, q3, _⟩ := hus j p _ hj hu
    rw [hx] at q1
    rw [hy] at q2
    cases q1
    cases q2
    exact ⟨_, q3, by rw [k4 j p hj, hu]⟩
theorem RpW.sqB {K : Fr_} {H : Hp} {v : V} {d : D} {ds : List D} (r : RpW K H v d) (e : iterD d = some ds) : ∃ t a xs, v = .ref a ∧ SqB K H t a xs ∧ RpA K H xs ds := by
  unfold iterD at e
  split at e
  · cases e
    obtain ⟨a, xs, rfl, h, q⟩ := r.list
    exact ⟨false, a, xs, rfl, h, q⟩
  · cases e
    obtain ⟨a, xs, rfl, h, q⟩ := r.tuple
    exact ⟨true, a, xs, rfl, h, q⟩
  · cases e
theorem RpA.of_get {K : Fr_} {H : Hp} : ∀ {vs : List V} {ds : List D}, vs.length = ds.length → (∀ (i : Nat) (v : V) (d : D), vs[i]? = some v → ds[i]? = some d → Rp K H v d) → RpA K H vs ds
  | [], [], _, _ => .nil
  | [], _ :: _, h, _ => by cases h
  | _ :: _, [], h, _ => by cases h
  | v :: vs, d :: ds, h, k => .cons (k 0 v d rfl rfl) (RpA.of_get (Nat.succ.inj h) fun i v d h1 h2 => k (i + 1) v d (by simpa using h1) (by simpa using h2))
theorem lz_go {σ : St} {H H1 : Hp} {vs : List V} {x ds : List D} {Q : VK} (r1 : RpWA X.K H1 vs x) (e : dZip2 x = some ds) (k : ∀ a H' xs, H1 a = none → Same H1 H' → H' a = some (.lst xs) → RpA X.K H' xs ds → Q (.ref a) H') : rLZ X vs H1 Q := by
  unfold dZip2 at e
  split at e
  · rename_i d1 d2
    obtain ⟨xs, e1, e2⟩ := Option.bind_eq_some_iff.mp e
    obtain ⟨ys, e3, rfl⟩ := Option.map_eq_some_iff.mp e2
    obtain ⟨v, u, rfl, q1, q2⟩ := r1.two
    obtain ⟨t1, a, us, rfl, s1, w1⟩ := q1.sqB e1
    obtain ⟨t2, b, ws, rfl, s2, w2⟩ := q2.sqB e3
    refine ⟨t1, t2, a, b, us, ws, rfl, s1, s2, fun H' S as k1 k2 k3 k4 k5 => k S H' _ k2 k1 k3 (RpA.of_get ?_ fun i v d hv hd => ?_)⟩
    · rw [List.length_map, k4, w1.length, w2.length]
      simp [zip2L]
    · rw [List.getElem?_map] at hv
      obtain ⟨p, hp, rfl⟩ := Option.map_eq_some_iff.mp hv
      unfold zip2L at hd
      rw [List.getElem?_map] at hd
      obtain ⟨⟨dx, dy⟩, hz, rfl⟩ := Option.map_eq_some_iff.mp hd
      obtain ⟨hx, hy⟩ := List.getElem?_zip_eq_some.mp hz
      obtain ⟨vx, g1, g2⟩ := w1.get hx
      obtain ⟨vy, g3, g4⟩ := w2.get hy
      obtain ⟨u, hu, hu2⟩ := k5 i p vx vy hp g1 g3
      exact .tup (.of hu hu2) (.cons (g2.mono (.of_same k1)) (.cons (g4.mono (.of_same k1)) .nil))
  · cases e
theorem df_lzip {e e2 : Expr} {m : Option (List D)} {p p2 pos pos2 : Pos} (hc : X.calm = true) (hl : X.mg "list" = none) (hm : X.mg "zip" = none) (ha : DAw X c Γ [e, e2] m) (hgl : Gl X "list" := by rfl) (hg : Gl X "zip" := by rfl) (hs : NoStar X [e, e2] := by exact ⟨rfl, rfl, trivial⟩) (hpl : (backTo pos2 (starEach [e2] X.env)).any (·.1) = false := by rfl)
    (na : starEach [Expr.Call (.Name "zip" p2) [e, e2] [] pos2] X.env = (false, eval (.Call (.Name "zip" p2) [e, e2] [] pos2) X.env) :: starEach [] X.env := by rfl) : DF X c Γ (.Call (.Name "list" p) [.Call (.Name "zip" p2) [e, e2] [] pos2] [] pos) (m.bind dZip2) := fun ds hd σ H Q E k => by
  obtain ⟨x, e1, e4⟩ := Option.bind_eq_some_iff.mp hd
  refine sE_of (pe_lzip hc hgl hl hg hm (pa_s hs) hs.1 hpl na) (ha x e1 σ H _ E fun vs H1 s1 r1 => lz_go (σ := σ) (H := H) r1 e4 fun a H' xs h1 h2 h3 h4 => k a H' xs (s1.free h1) (s1.trans h2) h3 h4)
end
end DL

set_option Elab.async false
set_option linter.all false
set_option maxRecDepth 100000
set_option maxHeartbeats 3200000
set_option autoImplicit false
/-! ### sets of ints: sorted(set(xs)), len(set(xs)) -/
namespace DL
open PySem PySem.Spec PyProof.Rows L2
section
variable {P : Program} {w : World} {A : Around} {E : Value → Shared → Prop} {s : Shared}
abbrev eSet (w : World) : Obj := { cls := .type "set", dict := none, data := .set #[] 0 (.fresh 0 0 (!w.params.followText "set-order")) }
theorem call_set_listI {l : Addr} {items : Array Value} (ns : List Int) {Q : Value → Shared → Prop} (hh : A.handled = none) (hl : s.heap.IsList l items) (hit : IntsAre items.toList ns) (hb : ns.length + 1 < scanBound)
    (h : ∀ (h' : Heap) (tk c : Nat), SetR w h' s.heap.objs.size (fun j => decide (j ∈ ns)) c → c ≤ ns.length → (∀ b o, s.heap.get? b = some o → h'.get? b = some o) → Q (.ref s.heap.objs.size) { s with heap := h', toks := tk }) :
    wpAny (model P w) A (call (.type "set") [.ref l]) Q E s := by
  have hn : items.size = ns.length := by
    rw [← Array.length_toList]
    exact IntsAre.length hit
  obtain ⟨c, tl, hmro⟩ := F.called_set.mro
  have k1 := F.called_set.made
  have k2 := F.called_set.sub
  refine wpAny_call (codeAny_of_tree ?_)
  show wpAny _ _ (callAny (.type "set") _) _ _ _
  refine wpAny_pure ⟨Code.quiet_builtin _ (by decide +kernel), codeAny_builtin F.entry_type_call ?_⟩
  rw [Around.under_plain (weight_type_call_type "set" [.ref l] []) rfl]
  have k3 := F.called_set.notType
  have k4 := F.called_set.canCreate
  have k5 := F.typeCall_set_1 (.ref l)
  repeat (any_goals (first | assumption | wp_step))
  have hS : (s.heap.push (eSet w)).get? s.heap.objs.size = some (eSet w) := Heap.get?_push_size _ rfl
  refine codeAny_mono (code_set_led1 (.ref l) (E := E) (Q₁ := fun obj s₁ => obj = .ref s.heap.objs.size ∧ s₁ = { s with heap := s.heap.push (eSet w) }) ⟨rfl, rfl⟩) fun r s₁ hr => ?_
  cases r with
  | error e => exact hr
  | ok fl =>
    cases fl with
    | ret obj =>
      obtain ⟨rfl, rfl⟩ := hr
      have hT : Shared.TypeIs { s with heap := s.heap.push (eSet w) } (.ref s.heap.objs.size) "set" := ⟨_, hS, rfl⟩
      have k6 := F.called_set.init.lookup
      have k7 := F.called_set.init.bind (.ref s.heap.objs.size)
      repeat (any_goals (first | assumption | wp_step))
      refine codeAny_mono (codeAny_call_builtin (R := wants (fun r s₂ => r = .none ∧ ∃ h' tk c, s₂ = { s with heap := h', toks := tk } ∧ SetR w h' s.heap.objs.size (fun j => decide (j ∈ ns)) c ∧ c ≤ ns.length ∧ (∀ b o, s.heap.get? b = some o → h'.get? b = some o)) E)
        F.called_set.init.plain F.entry_set_init (check_set_init_1 hT ?_)) fun r₂ s₂ hr₂ => ?_
      · obtain ⟨⟨ocls, odict, odata, oslots⟩, hol, hcl, nl, hdl⟩ := hl
        simp only at hcl hdl
        subst hcl; subst hdl
        have hol1 : (s.heap.push (eSet w)).get? l = some { cls := .type "list", dict := odict, data := .seq items nl, slots := oslots } := Heap.get?_push_of_some _ hol
        have k8 := F.sub_list_set
        have k9 := F.sub_list_frozenset
        have k10 : (Value.type "list" == Value.type "dict") = false := by decide
        have hl1 : (s.heap.push (eSet w)).IsList l items := ⟨_, hol1, rfl, nl, rfl⟩
        unfold Builtin.«set.__init__» noKeywords Builtin.Frozenset.updateFrom
        generalize hPI : pyIter = PI
        wp_walk
        subst hPI
        refine wpAny_pyIter_list hl1 ?_
        refine wpAny_bind (wpAny_runValue ?_)
        have lt : l < s.heap.objs.size := Heap.lt_size hol
        have sz : (s.heap.push (eSet w)).objs.size = s.heap.objs.size + 1 := Heap.size_push ..
        have hne : l ≠ (s.heap.push (eSet w)).objs.size := by rw [sz]; exact Nat.ne_of_lt (Nat.lt_succ_of_lt lt)
        have hSf : s.heap.objs.size ∉ [(s.heap.push (eSet w)).objs.size, l] := by
          rw [sz]
          intro q
          rcases List.mem_cons.mp q with q | q
          · exact Nat.ne_of_lt (Nat.lt_succ_self _) q
          · exact Nat.ne_of_gt lt (List.mem_singleton.mp q)
        have hval : ∀ (i : Nat) (v : Value), items[i]? = some v → ∃ k t, ns[i]? = some k ∧ v = .int k t := fun i v hv => by
          have hi : i < ns.length := by rw [← hn]; exact (Array.getElem?_eq_some_iff.mp hv).1
          obtain ⟨t, e⟩ := PyProof.Rows.IntsAre.int_at hit i v (by rw [Array.getElem?_toList]; exact hv)
          refine ⟨ns[i], t, List.getElem?_eq_getElem hi, ?_⟩
          rw [e, List.getD_eq_getElem?_getD, List.getElem?_eq_getElem hi] <;> rfl
        refine set_update_ints ((Walks.list (show A.in1.in1.in1.handled = none from hh) _ l hne items).toS) s.heap.objs.size hSf ns hn hb hval (items.size - 0) 0 _ (by omega) (Nat.zero_le _) ⟨⟨_, Heap.get?_push_size _ rfl, rfl, rfl⟩, (hl1.push _)⟩ ?hS0 ?hR
        case hS0 => exact ⟨0, Nat.le_refl 0, setR_new_at (Heap.get?_push_of_some _ hS)⟩
        case hR =>
          intro s' c' hm hc' hS'
          obtain ⟨h2, g2, d2, tk2, os2⟩ := s'
          have eg : g2 = s.gens := hm.gens
          have ed : d2 = s.drawn := hm.drawn
          have eo : os2 = s.os := hm.os
          subst eg; subst ed; subst eo
          show wpAny _ _ _ _ _ _
          refine wpAny_pure ?_
          show wpAny _ _ (ret Value.none) _ _ _
          rw [hn] at hc'
          refine wpAny_pure ⟨rfl, h2, tk2, c', rfl, hS', hc', fun b o e => ?_⟩
          have q0 : b < s.heap.objs.size := Heap.lt_size e
          refine hm.heap b o (fun q => ?_) (Heap.get?_push_of_some _ (Heap.get?_push_of_some _ e))
          rcases List.mem_cons.mp q with q | q
          · exact Nat.ne_of_lt q0 q
          · have q' := List.mem_singleton.mp q
            rw [sz] at q'
            exact Nat.ne_of_lt (Nat.lt_succ_of_lt q0) q'
      · cases r₂ with
        | error e => exact hr₂
        | ok fl₂ =>
          cases fl₂ with
          | ret r =>
            obtain ⟨rfl, h2, tk2, c', rfl, hS', hc', hk'⟩ := hr₂
            repeat (any_goals (first | assumption | wp_step))
            exact h _ _ _ hS' hc' hk'
          | _ => exact hr₂.elim
    | _ => exact hr.elim
end
end DL

set_option Elab.async false
set_option linter.all false
set_option maxRecDepth 100000
set_option maxHeartbeats 3200000
set_option autoImplicit false
namespace DL
open PySem PySem.Spec PyProof.Rows L2
/-! ### ints, each once, ascending -/
def insI (x : Int) : List Int → List Int
  | [] => [x]
  | y :: r => if x < y then x :: y :: r else if x = y then y :: r else y :: insI x r
def setI : List Int → List Int
  | [] => []
  | x :: r => insI x (setI r)
theorem mem_insI {x z : Int} : ∀ {l : List Int}, z ∈ insI x l ↔ z = x ∨ z ∈ l
  | [] => by simp [insI]
  | y :: r => by
    unfold insI
    split
    · simp
    · split
      · rename_i h1 h2
        simp [h2]
      · rw [List.mem_cons, mem_insI (l := r), List.mem_cons]
        constructor
        · rintro (h | h | h) <;> simp [h]
        · rintro (h | h | h) <;> simp [h]
theorem mem_setI {z : Int} : ∀ {l : List Int}, z ∈ setI l ↔ z ∈ l
  | [] => by simp [setI]
  | x :: r => by rw [setI, mem_insI, mem_setI (l := r), List.mem_cons]
theorem up_insI {x : Int} : ∀ {l : List Int}, l.Pairwise (· < ·) → (insI x l).Pairwise (· < ·)
  | [], _ => by simp [insI]
  | y :: r, h => by
    obtain ⟨h1, h2⟩ := List.pairwise_cons.mp h
    unfold insI
    split
    · rename_i q
      refine List.pairwise_cons.mpr ⟨fun z hz => ?_, h⟩
      rcases List.mem_cons.mp hz with e | hz
      · rw [e]; exact q
      · exact Int.lt_trans q (h1 z hz)
    · split
      · exact h
      · rename_i q1 q2
        refine List.pairwise_cons.mpr ⟨fun z hz => ?_, up_insI h2⟩
        rcases mem_insI.mp hz with e | hz
        · rw [e]; omega
        · exact h1 z hz
theorem up_setI : ∀ l : List Int, (setI l).Pairwise (· < ·)
  | [] => List.Pairwise.nil
  | x :: r => up_insI (up_setI r)
theorem nodup_up {l : List Int} (h : l.Pairwise (· < ·)) : l.Nodup := h.imp fun h => Int.ne_of_lt h
/-- the one ascending row of these ints -/
theorem sorted_ints {ns l : List Int} (nd : l.Nodup) (hm : ∀ k, k ∈ l ↔ k ∈ ns) : sortedD (l.map .int) = (setI ns).map .int := by
  refine sorted_unique (List.Perm.map _ ((List.perm_ext_iff_of_nodup nd (nodup_up (up_setI ns))).mpr fun k => (hm k).trans mem_setI.symm)) ?_
  rw [List.pairwise_map]
  exact (up_setI ns).imp fun h => by rw [lt_int]; exact decide_eq_true h
theorem each_ints {vs : List Value} {ns : List Int} (h : IntsAre vs ns) {R : Value → D → Prop} (k : ∀ i t, R (.int i t) (.int i)) : PySem.W.EachIs R vs (ns.map .int) := by
  induction h with
  | nil => exact .nil
  | cons i t _ ih => exact .cons (k i t) ih
theorem int_data {vs : List Value} {ns : List Int} (h : IntsAre vs ns) : (vs.map fun v => (.int (L2.vInt v) : D)) = ns.map .int := by
  induction h with
  | nil => rfl
  | cons i t _ ih => rw [List.map_cons, List.map_cons, ih]; rfl
theorem al_ints (ns : List Int) : PySem.W.AllAlike (ns.map .int) := fun d hd e he => by
  obtain ⟨i, _, rfl⟩ := List.mem_map.mp hd
  obtain ⟨j, _, rfl⟩ := List.mem_map.mp he
  rfl
section
variable {X : Cx} {c : FC} {Γ : Env_}
/-- set(xs) of ints, then what is done with it -/
theorem set_then {pins : List (Addr × Obj)} {σ : St} {H : Hp} {s : Shared} {l : Addr} {t : Bool} {ns : List Int} {A : Around} {E : Value → Shared → Prop} {Q : Value → Shared → Prop} (I : Inv X pins σ H s) (hh : A.handled = none) (hq : SqB X.K H t l (ns.map V.int)) (hn : ns.length ≤ 4000)
    (k : ∀ (h' : Heap) (tk c : Nat), SetR X.w h' s.heap.objs.size (fun j => decide (j ∈ ns)) c → c ≤ ns.length → Inv X pins σ H { s with heap := h', toks := tk } → Q (.ref s.heap.objs.size) { s with heap := h', toks := tk }) :
    wpAny (model X.prog X.w) A (call (.type "set") [.ref l]) Q E s := by
  obtain ⟨its, rv, sq, hz, _⟩ := inv_seqB I hq
  have hi : IntsAre its.toArray.toList ns := ints_of_vals rv
  have hb : ns.length + 1 < scanBound := by unfold scanBound; omega
  cases t with
  | true => exact call_set_tupI ns hh sq hi hb fun h' tk c R hc kp => k h' tk c R hc (I.kept kp)
  | false => exact call_set_listI ns hh sq hi hb fun h' tk c R hc kp => k h' tk c R hc (I.kept kp)
theorem pe_sset {a : Expr} {ta : TE} {p p2 q pos : Pos} (hc : X.calm = true) (hu : X.A.units + 100 < cLine) (hg : Gl X "sorted") (hm : X.mg "sorted" = none) (hg2 : Gl X "set") (hm2 : X.mg "set" = none) (ha : PE X a ta)
    (na : starEach [a] X.env = (false, eval a X.env) :: starEach [] X.env := by rfl) (nb : starEach [Expr.Call (.Name "set" p2) [a] [] q] X.env = (false, eval (.Call (.Name "set" p2) [a] [] q) X.env) :: starEach [] X.env := by rfl) :
    PE X (.Call (.Name "sorted" p) [.Call (.Name "set" p2) [a] [] q] [] pos) (fun σ H Q => ta σ H fun x H1 => ∃ l t ns, x = .ref l ∧ SqB X.K H1 t l (ns.map V.int) ∧ ns.length ≤ 4000 ∧ ∀ b, H1 b = none → Q (.ref b) (upd H1 b (.lst ((setI ns).map V.int)))) := by
  refine ⟨fun pins s σ H Q I h => ?_⟩
  refine Call_ (ld_blt I hg hm PyProof.Rows.boot_sorted ?_)
  refine PyProof.Rows.callWith_builtin1 (PyProof.Rows.args_cons ?_ nb) nb rfl
  refine Call_ (ld_blt I hg2 hm2 PyProof.Rows.boot_set ?_)
  refine PyProof.Rows.callWith_type1 (PyProof.Rows.args_cons (thn (ha.run pins s σ H _ I h) fun v s1 ⟨x, H1, I1, r1, q1⟩ => PyProof.Rows.args_nil ?_) na) na rfl
  obtain ⟨l, t, ns, rfl, hq, hn, q2⟩ := q1
  cases r1
  refine set_then I1 (I1.ok.hd hc) hq hn fun h' tk cc R hcc I2 => PyProof.Rows.args_nil ?_
  obtain ⟨o, es, ep, tb, ho, hex, hdt, g, nd, hmem, hb, hf, hsz, hr, hl2⟩ := R
  have gints : ∀ out : List Value, out.Perm (es.toList.map (·.2)) → ∃ ns' : List Int, IntsAre out ns' ∧ ns'.Nodup ∧ (∀ k, k ∈ ns' ↔ k ∈ ns) ∧ ns'.length = cc := fun out hp => by
    have hv : ∀ v ∈ out, ∃ k t, v = Value.int k t := fun v hv => by
      obtain ⟨e, he, ev⟩ := List.mem_map.mp (hp.mem_iff.mp hv)
      obtain ⟨kk, tt, e2, _⟩ := g e he
      exact ⟨kk, tt, ev.symm.trans e2⟩
    have hpk : (out.map L2.vInt).Perm (es.toList.map L2.keyOf) := by
      have z := hp.map L2.vInt
      rw [List.map_map] at z
      rw [show es.toList.map (L2.vInt ∘ fun x => x.2) = es.toList.map L2.keyOf from List.map_congr_left fun e _ => (key_vInt e).symm] at z
      exact z
    have ia : ∀ vs : List Value, (∀ v ∈ vs, ∃ k t, v = Value.int k t) → IntsAre vs (vs.map L2.vInt) := fun vs => by
      induction vs with
      | nil => intro _; exact .nil
      | cons v r ih =>
        intro hv
        obtain ⟨k, t, rfl⟩ := hv v List.mem_cons_self
        exact .cons k t (ih fun u hu => hv u (List.mem_cons_of_mem _ hu))
    refine ⟨out.map L2.vInt, ia out hv, hpk.nodup_iff.mpr nd, fun k => ?_, ?_⟩
    · rw [hpk.mem_iff, ← hmem k, decide_eq_true_eq]
    · rw [hpk.length_eq, List.length_map, Array.length_toList, hsz]
  refine sorted_genP (s := { s1 with heap := h', toks := tk }) (Pv := fun vs => ∃ ns' : List Int, IntsAre vs ns' ∧ ns'.Nodup ∧ (∀ k, k ∈ ns' ↔ k ∈ ns) ∧ ns'.length = cc) (κ := fun hp vs => PySem.W.dataKind (PySem.W.sortingHeap (hp.push (seqObj "list" vs.toArray 0)) hp.objs.size vs) (vs.map fun v => .int (L2.vInt v))) (fun Q' E' k => ?_) (fun vs ⟨ns', h1, _, _, h4⟩ => ?_) (fun s' vs ⟨ns', h1, _⟩ => ?_) fun s' vs hk hgn hos ⟨ns', h1, h2, h3, h4⟩ => ?_
  · exact collect_set (A := X.A.in1) (I1.ok.hd hc) ⟨o, ho, hex.1, hdt⟩ hf hb hr hl2 fun s' out h1 h2 h3 h4 h5 => k s' out h1 h3 h4 (gints out h5)
  · rw [h1.length, h4]
    exact Nat.le_trans hcc (Nat.le_trans hn (by decide))
  · have ea : PySem.W.EachIs (fun v d => ∃ as, Reads (PySem.W.sortingHeap (s'.heap.push (seqObj "list" vs.toArray 0)) s'.heap.objs.size vs) v d as) vs (ns'.map .int) := each_ints h1 fun i t => ⟨[], .int i t⟩
    rw [int_data h1]
    refine PySem.W.SortsAt.data (s := { s' with heap := PySem.W.sortingHeap (s'.heap.push (seqObj "list" vs.toArray 0)) s'.heap.objs.size vs }) ea (al_ints ns') (.inr fun d hd => ?_) fun d hd => ?_
    · obtain ⟨i, _, rfl⟩ := List.mem_map.mp hd
      exact ⟨(by intro z; cases z), fun xs z => by cases z⟩
    · obtain ⟨i, _, rfl⟩ := List.mem_map.mp hd
      show X.A.units + 2 + 0 < cLine
      omega
  · have ek : PySem.W.EachIs (fun v d => ∃ as, Reads (PySem.W.sortingHeap (s'.heap.push (seqObj "list" vs.toArray 0)) s'.heap.objs.size vs) v d as) vs (ns'.map .int) := each_ints h1 fun i t => ⟨[], .int i t⟩
    have eR : PySem.W.EachIs (fun u d => ∃ w, RelV w u ∧ Rp X.K H1 w d) vs (ns'.map .int) := each_ints h1 fun i t => ⟨.int i, ⟨t, rfl⟩, .int i⟩
    have eo : PySem.W.EachIs (fun u d => ∃ w, RelV w u ∧ Rp X.K H1 w d) (PySem.W.sortVals (PySem.W.dataKind (PySem.W.sortingHeap (s'.heap.push (seqObj "list" vs.toArray 0)) s'.heap.objs.size vs) (ns'.map .int)) false vs vs) (sortedD (ns'.map .int)) :=
      PySem.W.sortVals_each (κ := PySem.W.dataKind _ (ns'.map .int)) (fun b => PySem.W.keyToks b) eR (PySem.W.each_keys (al_ints ns') ek)
    rw [int_data h1]
    obtain ⟨ws, w1, w2⟩ := each_back eo
    rw [sorted_ints h2 h3] at w2
    have w3 := w2.intsD
    subst w3
    have I3 : Inv X pins σ H1 s' := I2.call' (ch := []) hos (Un.kept hk) (I2.hok.kept hk) (by rw [hgn]; exact I2.bare) (fun _ z => nomatch z)
    have hfr : H1 s'.heap.objs.size = none := I3.hok.fresh (Nat.le_refl _)
    obtain ⟨ep2, he2⟩ := sortedOver_at s'.heap vs (PySem.W.sortVals (PySem.W.dataKind (PySem.W.sortingHeap (s'.heap.push (seqObj "list" vs.toArray 0)) s'.heap.objs.size vs) (ns'.map .int)) false vs vs).toArray
    have hlen : (PySem.W.sortVals (PySem.W.dataKind (PySem.W.sortingHeap (s'.heap.push (seqObj "list" vs.toArray 0)) s'.heap.objs.size vs) (ns'.map .int)) false vs vs).length ≤ sizeLine := by
      rw [PySem.W.sortVals_length false rfl, h1.length, h4]
      exact Nat.le_trans hcc (Nat.le_trans hn (by decide))
    exact ⟨.ref _, _, I3.laid (o := .lst ((setI ns).map V.int)) (t' := s'.toks) (fun b o z => sortedOver_old z) (Nat.le_refl _) ⟨by rw [w1.length]; exact hlen, _, ep2, w1, he2⟩, rfl, q2 _ hfr⟩
/-- what sorted(set(xs)) tells -/
def dSSet : D → Option (List D) := fun d => (seqD d).bind fun ds => (intsD ds).bind fun ns => if ns.length ≤ 4000 then some ((setI ns).map .int) else none
theorem RpW.seqB {K : Fr_} {H : Hp} {v : V} {d : D} {ds : List D} (r : RpW K H v d) (e : seqD d = some ds) : ∃ t a xs, v = .ref a ∧ SqB K H t a xs ∧ RpA K H xs ds := by
  unfold seqD at e
  split at e
  · cases e
    obtain ⟨a, xs, rfl, h, q⟩ := r.list
    exact ⟨false, a, xs, rfl, h, q⟩
  · cases e
    obtain ⟨a, xs, rfl, h, q⟩ := r.tuple
    exact ⟨true, a, xs, rfl, h, q⟩
  · cases e
theorem df_sset {e : Expr} {m : Option D} {p p2 pos q : Pos} (hc : X.calm = true) (hu : X.A.units + 100 < cLine) (hm : X.mg "sorted" = none) (hm2 : X.mg "set" = none) (he : DW X c Γ e m) (hg : Gl X "sorted" := by rfl) (hg2 : Gl X "set" := by rfl)
    (na : starEach [e] X.env = (false, eval e X.env) :: starEach [] X.env := by rfl) (nb : starEach [Expr.Call (.Name "set" p2) [e] [] q] X.env = (false, eval (.Call (.Name "set" p2) [e] [] q) X.env) :: starEach [] X.env := by rfl) :
    DF X c Γ (.Call (.Name "sorted" p) [.Call (.Name "set" p2) [e] [] q] [] pos) (m.bind dSSet) := fun ds hd σ H Q E k => by
  obtain ⟨d, e1, e2⟩ := Option.bind_eq_some_iff.mp hd
  obtain ⟨xs, e3, e4⟩ := Option.bind_eq_some_iff.mp e2
  obtain ⟨ns, e5, e6⟩ := Option.bind_eq_some_iff.mp e4
  split at e6
  · rename_i hl
    cases e6
    have e7 := ints_eq e5
    subst e7
    refine sE_of (pe_sset hc hu hg hm hg2 hm2 (pe_s e) na nb) (he d e1 σ H _ E fun v H1 s1 r1 => ?_)
    obtain ⟨t, a, vs, rfl, hq, r⟩ := r1.seqB e3
    have e8 := r.intsD
    subst e8
    exact ⟨a, t, ns, rfl, hq, hl, fun b hb => k b _ _ (s1.free hb) (s1.trans (Same.new hb)) upd_same (RpA.ofInts _)⟩
  · cases e6
/-! len(set(xs)) -/
theorem pe_lset {a : Expr} {ta : TE} {p p2 q pos : Pos} (hc : X.calm = true) (hg : Gl X "len") (hm : X.mg "len" = none) (hg2 : Gl X "set") (hm2 : X.mg "set" = none) (ha : PE X a ta)
    (na : starEach [a] X.env = (false, eval a X.env) :: starEach [] X.env := by rfl) (nb : starEach [Expr.Call (.Name "set" p2) [a] [] q] X.env = (false, eval (.Call (.Name "set" p2) [a] [] q) X.env) :: starEach [] X.env := by rfl) :
    PE X (.Call (.Name "len" p) [.Call (.Name "set" p2) [a] [] q] [] pos) (fun σ H Q => ta σ H fun x H1 => ∃ l t ns, x = .ref l ∧ SqB X.K H1 t l (ns.map V.int) ∧ ns.length ≤ 4000 ∧ Q (.int ((setI ns).length : Nat)) H1) := by
  refine ⟨fun pins s σ H Q I h => ?_⟩
  refine Call_ (ld_blt I hg hm PySem.boot_len ?_)
  refine PyProof.Rows.callWith_builtin1 (PyProof.Rows.args_cons ?_ nb) nb rfl
  refine Call_ (ld_blt I hg2 hm2 PyProof.Rows.boot_set ?_)
  refine PyProof.Rows.callWith_type1 (PyProof.Rows.args_cons (thn (ha.run pins s σ H _ I h) fun v s1 ⟨x, H1, I1, r1, q1⟩ => PyProof.Rows.args_nil ?_) na) na rfl
  obtain ⟨l, t, ns, rfl, hq, hn, q2⟩ := q1
  cases r1
  refine set_then I1 (I1.ok.hd hc) hq hn fun h' tk cc R hcc I2 => PyProof.Rows.args_nil ?_
  obtain ⟨o, es, ep, tb, ho, hex, hdt, g, nd, hmem, hb, hf, hsz, hr, hl2⟩ := R
  have hp : (es.toList.map L2.keyOf).Perm (setI ns) := (List.perm_ext_iff_of_nodup nd (nodup_up (up_setI ns))).mpr fun k => by
    rw [← hmem k, decide_eq_true_eq, mem_setI]
  have hl3 : (setI ns).length = es.size := by rw [← hp.length_eq, List.length_map, Array.length_toList]
  refine call_len_set ho hex hdt hf (by have q : cc ≤ 4000 := Nat.le_trans hcc hn; rw [hsz]; omega) ⟨.int ((setI ns).length : Nat), H1, I2.tok _, ⟨_, by rw [hl3]⟩, q2⟩
def dLSet : D → Option D := fun d => (seqD d).bind fun ds => (intsD ds).bind fun ns => if ns.length ≤ 4000 then some (.int ((setI ns).length : Nat)) else none
theorem de_lset {e : Expr} {m : Option D} {p p2 pos q : Pos} (hc : X.calm = true) (hm : X.mg "len" = none) (hm2 : X.mg "set" = none) (he : DW X c Γ e m) (hg : Gl X "len" := by rfl) (hg2 : Gl X "set" := by rfl)
    (na : starEach [e] X.env = (false, eval e X.env) :: starEach [] X.env := by rfl) (nb : starEach [Expr.Call (.Name "set" p2) [e] [] q] X.env = (false, eval (.Call (.Name "set" p2) [e] [] q) X.env) :: starEach [] X.env := by rfl) :
    DE X c Γ (.Call (.Name "len" p) [.Call (.Name "set" p2) [e] [] q] [] pos) (m.bind dLSet) := fun z hd σ H Q E k => by
  obtain ⟨d, e1, e2⟩ := Option.bind_eq_some_iff.mp hd
  obtain ⟨xs, e3, e4⟩ := Option.bind_eq_some_iff.mp e2
  obtain ⟨ns, e5, e6⟩ := Option.bind_eq_some_iff.mp e4
  split at e6
  · rename_i hl
    cases e6
    have e7 := ints_eq e5
    subst e7
    refine sE_of (pe_lset hc hg hm hg2 hm2 (pe_s e) na nb) (he d e1 σ H _ E fun v H1 s1 r1 => ?_)
    obtain ⟨t, a, vs, rfl, hq, r⟩ := r1.seqB e3
    have e8 := r.intsD
    subst e8
    exact ⟨a, t, ns, rfl, hq, hl, k _ _ s1 (.int _)⟩
  · cases e6
end
end DL

set_option Elab.async false
set_option linter.all false
set_option maxRecDepth 100000
set_option maxHeartbeats 2000000
set_option autoImplicit false
namespace DL
open PySem PySem.Spec PyProof.Rows L2
/-! ### dicts that a slot alone holds, keys tuples of ints and texts -/
def keysL : List D → Option (List Key)
  | [] => some []
  | d :: r => (keyOf d).bind fun k => (keysL r).map (k :: ·)
def keysOf : D → Option (List Key)
  | .tuple ds => keysL ds
  | _ => none
theorem keysL_keyD : ∀ ks : List Key, keysL (ks.map keyD) = some ks
  | [] => rfl
  | k :: r => by
    rw [List.map_cons, keysL, keyOf_keyD, Option.bind_some, keysL_keyD r]
    rfl
theorem keysL_eq : ∀ {ds : List D} {ks : List Key}, keysL ds = some ks → ds = ks.map keyD
  | [], ks, h => by cases h; rfl
  | d :: r, ks, h => by
    obtain ⟨k, e1, e2⟩ := Option.bind_eq_some_iff.mp h
    obtain ⟨q, e3, rfl⟩ := Option.map_eq_some_iff.mp e2
    rw [List.map_cons, keyD_keyOf e1, keysL_eq e3]
theorem keysOf_keyDs (ks : List Key) : keysOf (keyDs ks) = some ks := keysL_keyD ks
theorem keysOf_eq {d : D} {ks : List Key} (h : keysOf d = some ks) : d = keyDs ks := by
  cases d with
  | tuple ds => rw [keysL_eq h]; rfl
  | _ => cases h
def isT (ks : List Key) (d : D) : Bool := decide (keysOf d = some ks)
theorem isT_keyDs (ks js : List Key) : isT ks (keyDs js) = decide (js = ks) := by
  unfold isT
  rw [keysOf_keyDs]
  exact decide_eq_decide.mpr ⟨fun h => Option.some.inj h, fun h => congrArg some h⟩
/-- what stands at a tuple -/
def getT (kvs : List (D × D)) (ks : List Key) : Option D := (kvs.find? fun p => isT ks p.1).map (·.2)
def putT (kvs : List (D × D)) (ks : List Key) (d : D) : List (D × D) := if kvs.any (fun p => isT ks p.1) then kvs.map (fun p => if isT ks p.1 then (p.1, d) else p) else kvs ++ [(keyDs ks, d)]
theorem RpT.get {K : Fr_} {H : Hp} (k : List Key) : ∀ {ws : List (List Key × V)} {kvs : List (D × D)}, RpT K H ws kvs → (valV ws k = none ∧ getT kvs k = none) ∨ ∃ v d, valV ws k = some v ∧ getT kvs k = some d ∧ Rp K H v d
  | [], [], _ => .inl ⟨rfl, rfl⟩
  | [], _ :: _, h => by cases h.1
  | _ :: _, [], h => by cases h.1
  | (j, v) :: r, (q, d) :: r', ⟨h1, h2⟩ => by
    have hq : keyDs j = q := (List.cons.inj h1).1
    subst hq
    cases h2 with
    | cons hv hr =>
      by_cases e : j = k
      · exact .inr ⟨v, d, valV_pos e, by simp [getT, List.find?_cons, isT_keyDs, e], hv⟩
      · have e2 : getT ((keyDs j, d) :: r') k = getT r' k := by simp [getT, List.find?_cons, isT_keyDs, e]
        rw [e2, valV_neg (p := (j, v)) e]
        exact RpT.get k (ws := r) (kvs := r') ⟨(List.cons.inj h1).2, hr⟩
theorem RpT.any {K : Fr_} {H : Hp} (k : List Key) : ∀ {ws : List (List Key × V)} {kvs : List (D × D)}, RpT K H ws kvs → (ws.any fun p => decide (p.1 = k)) = kvs.any fun p => isT k p.1
  | [], [], _ => rfl
  | [], _ :: _, h => by cases h.1
  | _ :: _, [], h => by cases h.1
  | (j, v) :: r, (q, d) :: r', ⟨h1, h2⟩ => by
    have hq : keyDs j = q := (List.cons.inj h1).1
    subst hq
    cases h2 with
    | cons hv hr => rw [List.any_cons, List.any_cons, RpT.any k (ws := r) (kvs := r') ⟨(List.cons.inj h1).2, hr⟩, isT_keyDs]
theorem RpT.repl {K : Fr_} {H : Hp} (k : List Key) {v : V} {d : D} (h : Rp K H v d) : ∀ {ws : List (List Key × V)} {kvs : List (D × D)}, RpT K H ws kvs → RpT K H (ws.map fun p => if p.1 = k then (p.1, v) else p) (kvs.map fun p => if isT k p.1 then (p.1, d) else p)
  | [], [], _ => ⟨rfl, .nil⟩
  | [], _ :: _, h => by cases h.1
  | _ :: _, [], h => by cases h.1
  | (j, w) :: r, (q, e) :: r', ⟨h1, h2⟩ => by
    have hq : keyDs j = q := (List.cons.inj h1).1
    subst hq
    cases h2 with
    | cons hv hr =>
      have ih := RpT.repl k h (ws := r) (kvs := r') ⟨(List.cons.inj h1).2, hr⟩
      rw [List.map_cons, List.map_cons]
      by_cases e1 : j = k
      · rw [if_pos e1, if_pos (by rw [isT_keyDs]; exact decide_eq_true e1)]
        exact ⟨by rw [List.map_cons, List.map_cons, ih.1], .cons h ih.2⟩
      · rw [if_neg e1, if_neg (by rw [isT_keyDs]; simpa using e1)]
        exact ⟨by rw [List.map_cons, List.map_cons, ih.1], .cons hv ih.2⟩
theorem RpT.put {K : Fr_} {H : Hp} {ws : List (List Key × V)} {kvs : List (D × D)} (k : List Key) {v : V} {d : D} (h : Rp K H v d) (r : RpT K H ws kvs) : RpT K H (putK ws k v) (putT kvs k d) := by
  unfold putK putT
  rw [r.any k]
  split
  · exact r.repl k h
  · refine ⟨by rw [List.map_append, List.map_append, r.1]; rfl, ?_⟩
    rw [List.map_append, List.map_append]
    exact r.2.append (.cons h .nil)
theorem RpT.length {K : Fr_} {H : Hp} {ws : List (List Key × V)} {kvs : List (D × D)} (r : RpT K H ws kvs) : ws.length = kvs.length := by
  have q := congrArg List.length r.1
  rwa [List.length_map, List.length_map] at q
theorem ints_keys {K : Fr_} {H : Hp} : ∀ {ks : List Key} {vs : List V}, RpA K H vs (ks.map keyD) → vs = ks.map kV
  | [], _, h => by cases h; rfl
  | k :: r, _, h => by
    cases h with
    | cons h1 h2 => rw [RpW.key (.st h1) (keyOf_keyD k), ints_keys h2, List.map_cons]
/-- a tuple as a key -/
theorem Rp.tkey {K : Fr_} {H : Hp} {v : V} {d : D} {ks : List Key} (hp : plainT = false) (h : Rp K H v d) (e : keysOf d = some ks) : ∃ b, v = .ref b ∧ H b = some (.tup (ks.map kV)) := by
  rw [keysOf_eq e] at h
  cases h with
  | tup h1 h2 =>
    rename_i a xs
    rcases h1 with ⟨u, q1, q2⟩ | ⟨z, _⟩
    · rcases isPT_cases q1 with ⟨z, _⟩ | ⟨_, rfl⟩
      · rw [hp] at z; cases z
      · have e2 := ints_keys h2
        subst e2
        exact ⟨a, rfl, q2⟩
    · rw [hp] at z; cases z
section
variable {X : Cx} {c : FC} {Γ : Env_} {N B R : Type} {GN : N → Env_} {GB : B → Env_} {RK : R → V → Hp → Prop} {rest : List Stmt}
/-- {k: v} -/
theorem pe_dispT {k v : Expr} {tk tv : TE} {pos : Pos} (hu : X.A.units + 100 < cLine) (hk : PE X k tk) (hv : PE X v tv) :
    PE X (.Dict [some k] [v] pos) (fun σ H Q => ∀ p, H p = none → tPairs [(tk, tv)] σ (upd H p (.dT [])) fun ps H2 => ∃ x y b ks, ps = [(x, y)] ∧ H2 p = some (.dT []) ∧ x = .ref b ∧ H2 b = some (.tup (ks.map kV)) ∧ Q (.ref p) (upd H2 p (.dT [(ks, y)]))) := by
  refine ⟨fun pins s σ H Q I q => ?_⟩
  have hn := I.hok.fresh (Nat.le_refl s.heap.objs.size)
  have I1 := I.laid (a := s.heap.objs.size) (o := .dT []) (h' := s.heap.push { cls := .type "dict", data := .dict #[] }) (t' := s.toks) (fun _ _ q => Heap.get?_push_of_some _ q) (Nat.le_refl _) (dt_empty s.heap I.big)
  refine wpAny_Dict_any rfl rfl (by simp) (show 1 ≤ 15 by decide) (thn ((pps_cons hk hv pps_nil).run pins _ σ _ _ I1 (q _ hn)) fun ws s2 ⟨ps, H2, I2, rel, x, y, b, ks, ep, ed, ex, eb, q2⟩ => ?_)
  subst ep
  cases rel with
  | @cons a0 w0 as bs r1 r2 =>
    cases r2
    obtain ⟨u, r⟩ := w0
    obtain ⟨ru, rr⟩ := r1
    subst ex
    cases (show u = Value.ref b from ru)
    obtain ⟨z, hd, xs, rel, dd⟩ := dt_of I2.hok ed
    have hxs : xs.length = 0 := (Paired.length rel).symm
    have hz : xs.length ≤ sizeLine := by rw [hxs]; decide
    unfold storeAll
    rw [List.forIn_cons]
    refine wpAny_bind (wpAny_bind (wpAny_dictSet_heap (hsz := hz) (show X.A.units < cLine by omega) (key_of I2.hok eb) dd fun h' dd' hs => wpAny_pure ?_))
    dsimp only
    rw [List.forIn_nil]
    refine wpAny_pure ⟨.ref s.heap.objs.size, _, ?_, rfl, q2⟩
    obtain ⟨q, es, ep, hq, h2, h3, h4, _, h5⟩ := dd'
    refine d_write I2 (by rw [ed]; exact True.intro) hs ⟨q, hq⟩ ⟨(show 1 ≤ sizeLine by decide), hd, _, (rel.put ks eb rr).keeps fun c ys ec => ?_, q, es, ep, hq, h2, h3, h4, h5⟩
    rw [upd_ne (ne_of ec ed (fun z => nomatch z))]
    exact ec
theorem mono_dT {H : Hp} {a : Addr} {ws ws' : List (List Key × V)} (h : H a = some (.dT ws)) : Mono H (upd H a (.dT ws')) :=
  ⟨fun b zs hb => by rw [upd_ne (ne_of hb h (by intro z; cases z))]; exact hb, fun b o u hb => by rw [upd_ne (ne_of hb h (by intro z; cases z))]; exact hb⟩
theorem dxk_dispT {T : Type} {G : T → Env_} {k v : Expr} {mk mv : T → Option D} {pos : Pos} (hpt : plainT = false) (hu : X.A.units + 100 < cLine) (hk : ∀ t, DE X c (G t) k (mk t)) (hv : ∀ t, DE X c (G t) v (mv t)) :
    DXK X c G .dtt (.Dict [some k] [v] pos) (liftX fun t => (mk t).bind fun kd => (keysOf kd).bind fun ks => (mv t).map fun d => [(keyDs ks, d)]) := fun t a t' hm σ H Q E kk => by
  obtain ⟨e0, rfl⟩ := liftX_eq hm
  obtain ⟨kd, e1, e2⟩ := Option.bind_eq_some_iff.mp e0
  obtain ⟨ks, e3, e4⟩ := Option.bind_eq_some_iff.mp e2
  obtain ⟨d, e5, rfl⟩ := Option.map_eq_some_iff.mp e4
  refine sE_of (pe_dispT hu (pe_s k) (pe_s v)) fun p hp => ?_
  refine hk _ kd e1 σ _ _ (E.same (Same.new hp)) fun x H1 s1 r1 => hv _ d e5 σ H1 _ ((E.same (Same.new hp)).same s1) fun y H2 s2 r2 => ?_
  obtain ⟨b, rfl, hb⟩ := r1.tkey hpt e3
  have hd : H2 p = some (.dT []) := s2 _ _ (s1 _ _ upd_same)
  refine ⟨_, y, b, ks, rfl, hd, rfl, s2 _ _ hb, ?_⟩
  have s : Same H (upd H2 p (.dT [(ks, y)])) := fun c o hc => by
    have hne : c ≠ p := ne_of_none hc hp
    rw [upd_ne hne]
    exact s2 _ _ (s1 _ _ (by rw [upd_ne hne]; exact hc))
  exact kk _ _ (E.same s) (.of_same E s) ⟨⟨p, _, rfl, upd_same, ⟨rfl, .cons (r2.mono (mono_dT hd)) .nil⟩⟩, fun _ b e => by cases e; exact ⟨E.notOwn hp, E.fresh0 hp⟩⟩ fun _ b e => by cases e; exact hp
/-- d[k] -/
theorem de_getT (j : Nat) {kvs : List (D × D)} {x : Str} {e : Expr} {me : Option D} {p1 pos : Pos} (hpt : plainT = false) (hu : X.A.units + 100 < cLine) (he : DE X c Γ e me) (h : Γ[j]? = some (.dtt kvs) := by rfl) (hN : X.N[j]? = some x := by rfl) (hv : Vis X.env.scope x := by first | exact Or.inl rfl | exact Or.inr (Or.inl rfl) | exact Or.inr (Or.inr rfl))
    (hs : NoSl e := by intro _ _; rfl) (hd : (x == ("__debug__" : Str)) = false := by decide) (hcd : (x == ("__classdict__" : Str)) = false := by decide) :
    DE X c Γ (.Subscript (.Name x p1) e pos) (me.bind fun q => (keysOf q).bind (getT kvs)) := fun d hm σ H Q E k => by
  obtain ⟨q, e1, e2⟩ := Option.bind_eq_some_iff.mp hm
  obtain ⟨ks, e3, e4⟩ := Option.bind_eq_some_iff.mp e2
  refine sE_of (pe_dget (by omega) (pe_var hN hv hd hcd) (pe_s e) hs) ?_
  obtain ⟨a, ws, ea, ha, r⟩ := E.dttAt h
  refine ⟨_, ea, he q e1 σ H _ E fun v H1 s1 r1 => ?_⟩
  obtain ⟨b, rfl, hb⟩ := r1.tkey hpt e3
  rcases r.get ks with ⟨_, z⟩ | ⟨w, d', h1, h2, h3⟩
  · rw [z] at e4; cases e4
  · rw [h2] at e4
    cases e4
    exact ⟨a, w, rfl, by rw [← h1]; exact DGet.t (s1 _ _ ha) hb, k w H1 s1 (h3.mono (.of_same s1))⟩
/-- k in d, k not in d -/
theorem dt_inT (j : Nat) {kvs : List (D × D)} {x : Str} {e : Expr} {me : Option D} {p1 pos : Pos} (hpt : plainT = false) (hu : X.A.units + 100 < cLine) (he : DE X c Γ e me) (h : Γ[j]? = some (.dtt kvs) := by rfl) (hN : X.N[j]? = some x := by rfl) (hv : Vis X.env.scope x := by first | exact Or.inl rfl | exact Or.inr (Or.inl rfl) | exact Or.inr (Or.inr rfl))
    (hm : behindInMarks .In (.Name x p1) = false := by first | rfl | exact nomark _) (hd : (x == ("__debug__" : Str)) = false := by decide) (hcd : (x == ("__classdict__" : Str)) = false := by decide) :
    DT X c Γ (.Compare e [.In] [.Name x p1] pos) (me.bind fun q => (keysOf q).map fun ks => (getT kvs ks).isSome) := fun d hm' σ H Q E k => by
  obtain ⟨q, e1, e2⟩ := Option.bind_eq_some_iff.mp hm'
  obtain ⟨ks, e3, rfl⟩ := Option.map_eq_some_iff.mp e2
  refine sT_of (pt_cmp (pc_din (by omega) (pe_s e) (pe_var hN hv hd hcd)) hm) ?_
  refine he q e1 σ H _ E fun v H1 s1 r1 => ?_
  obtain ⟨b, rfl, hb⟩ := r1.tkey hpt e3
  obtain ⟨a, ws, ea, ha, r⟩ := (E.same s1).dttAt h
  refine ⟨_, ea, a, _, rfl, DGet.t ha hb, _, rfl, ?_⟩
  rcases r.get ks with ⟨h1, h2⟩ | ⟨w, d', h1, h2, h3⟩
  · rw [h1]
    have q := k H1 s1
    rw [h2] at q
    exact q
  · rw [h1]
    have q := k H1 s1
    rw [h2] at q
    exact q
theorem dt_notinT (j : Nat) {kvs : List (D × D)} {x : Str} {e : Expr} {me : Option D} {p1 pos : Pos} (hpt : plainT = false) (hu : X.A.units + 100 < cLine) (he : DE X c Γ e me) (h : Γ[j]? = some (.dtt kvs) := by rfl) (hN : X.N[j]? = some x := by rfl) (hv : Vis X.env.scope x := by first | exact Or.inl rfl | exact Or.inr (Or.inl rfl) | exact Or.inr (Or.inr rfl))
    (hm : behindInMarks .NotIn (.Name x p1) = false := by first | rfl | exact nomark _) (hd : (x == ("__debug__" : Str)) = false := by decide) (hcd : (x == ("__classdict__" : Str)) = false := by decide) :
    DT X c Γ (.Compare e [.NotIn] [.Name x p1] pos) (me.bind fun q => (keysOf q).map fun ks => !(getT kvs ks).isSome) := fun d hm' σ H Q E k => by
  obtain ⟨q, e1, e2⟩ := Option.bind_eq_some_iff.mp hm'
  obtain ⟨ks, e3, rfl⟩ := Option.map_eq_some_iff.mp e2
  refine sT_of (pt_cmp (pc_dnotin (by omega) (pe_s e) (pe_var hN hv hd hcd)) hm) ?_
  refine he q e1 σ H _ E fun v H1 s1 r1 => ?_
  obtain ⟨b, rfl, hb⟩ := r1.tkey hpt e3
  obtain ⟨a, ws, ea, ha, r⟩ := (E.same s1).dttAt h
  refine ⟨_, ea, a, _, rfl, DGet.t ha hb, _, rfl, ?_⟩
  rcases r.get ks with ⟨h1, h2⟩ | ⟨w, d', h1, h2, h3⟩
  · rw [h1]
    have q := k H1 s1
    rw [h2] at q
    exact q
  · rw [h1]
    have q := k H1 s1
    rw [h2] at q
    exact q
/-- d[k] = e -/
def setT (kvs : List (D × D)) (q d : D) : Option (List (D × D)) := (keysOf q).bind fun ks => if kvs.length < 100000 then some (putT kvs ks d) else none
theorem db_setT (j : Nat) {kvs : List (D × D)} {x : Str} {e i : Expr} {me mi : Option D} {mr : List (D × D) → Option (Fl N B R)} {pos p1 p2 : Pos} (hpt : plainT = false) (hu : X.A.units + 100 < cLine) (he : DE X c Γ e me) (hi : DE X c Γ i mi) (hr : ∀ es, DB X c GN GB RK (Γ.set j (.dtt es)) rest (mr es)) (h : Γ[j]? = some (.dtt kvs) := by rfl) (hN : X.N[j]? = some x := by rfl) (hv : Vis X.env.scope x := by first | exact Or.inl rfl | exact Or.inr (Or.inl rfl) | exact Or.inr (Or.inr rfl))
    (hs : swapsWithSole [.Subscript (.Name x p1) i p2] e pos.line X.env = pure false := by rfl) (hw : swappedStores [.Subscript (.Name x p1) i p2] e X.env = pure none := by rfl) (h1 : (assignEach [.Subscript (.Name x p1) i p2] X.env).map (·.2) = [assign (.Subscript (.Name x p1) i p2) X.env] := by rfl)
    (ha : ∀ v, assign (.Subscript (.Name x p1) i p2) X.env v = (do
      let ov ← holding [v] (eval (.Name x p1) X.env)
      let iv ← holding [v, ov] (eval i X.env)
      standAt p2
      holding [v, ov, iv] (setItem ov iv v)
      release [v, ov, iv] []) := by intro _; rfl) (hd : (x == ("__debug__" : Str)) = false := by decide) (hcd : (x == ("__classdict__" : Str)) = false := by decide) :
    DB X c GN GB RK Γ (.Assign [.Subscript (.Name x p1) i p2] e pos :: rest) ((me.bind fun d => mi.bind fun q => setT kvs q d).bind mr) := fun o h' σ H D E f => by
  obtain ⟨es, e0, e2⟩ := Option.bind_eq_some_iff.mp h'
  obtain ⟨d, e1, e3⟩ := Option.bind_eq_some_iff.mp e0
  obtain ⟨q, e4, e5⟩ := Option.bind_eq_some_iff.mp e3
  obtain ⟨ks, e6, e7⟩ := Option.bind_eq_some_iff.mp e5
  split at e7
  · rename_i hl
    cases e7
    refine sSs_cons (ps_asg (pe_s e) (pg_sub (pe_var hN hv hd hcd) (pe_s i) (set_dict (by omega)) ha) hs hw h1) (he d e1 σ H _ E fun v H1 s1 r1 => ?_)
    obtain ⟨a, ws, ea, hl1, r⟩ := (E.same s1).dttAt h
    refine ⟨_, ea, hi q e4 σ H1 _ (E.same s1) fun w H2 s2 r2 => ?_⟩
    obtain ⟨b, rfl, hb⟩ := r2.tkey hpt e6
    have hd2 := s2 _ _ hl1
    refine ⟨a, _, rfl, DPut.t hd2 hb (Nat.lt_of_lt_of_le (by rw [r.length]; exact hl) (by decide)), ?_⟩
    have mo := mono_dT (ws' := putK ws ks v) hd2
    have E2 := ((E.same s1).same s2).writeC (w' := .dtt (putT kvs ks d)) h rfl ea (H' := upd H2 a (.dT (putK ws ks v))) (fun b o hb hne => by rw [upd_ne hne]; exact hb) rfl ⟨a, _, rfl, upd_same, ((r.mono (.of_same s2)).put ks (r1.mono (.of_same s2))).mono mo⟩
    exact hr _ o e2 σ _ D E2 (f.mono ((Mono.of_same (s1.trans s2)).trans mo))
  · cases e7
end
end DL

set_option Elab.async false
set_option linter.all false
set_option maxRecDepth 100000
set_option maxHeartbeats 4000000
set_option autoImplicit false
namespace DL
open PySem PySem.Spec PyProof.Rows L2
noncomputable def B_is_int (x_value : D) (x_low : D) (x_high : D) : Option (Fl (Unit) Empty (D)) :=
  ((andV ((some x_value).bind (dIsi "int")) (andV (notV ((some x_value).bind (dIsi "bool"))) (chainO dLe dLe (some x_low) (some x_value) (some x_high)))).map fun d => .rt d)
noncomputable def M_is_int (x_value : D) (x_low : D) (x_high : D) : Option D := (B_is_int x_value x_low x_high).bind finP
noncomputable def b_is_int : List D → Option (Fl (Unit) Empty (D))
  | [x_value, x_low, x_high] => B_is_int x_value x_low x_high
  | _ => none
noncomputable def g_is_int (ds : List D) : Option D := (b_is_int ds).bind finP
noncomputable def B_are_ints (x_value : D) (x_low : D) (x_high : D) : Option (Fl (Unit) Empty (D)) :=
  ((andV ((some x_value).bind (dIsi "tuple")) ((consO ((lenOk (((some x_value).bind iterS).bind (lcF some (fun p1 : D => some true) fun p1 : D => ((consO (some p1) (consO (some x_low) (consO (some x_high) (some [])))).bind g_is_int)))).map .list) (some [])).bind dAll)).map fun d => .rt d)
noncomputable def M_are_ints (x_value : D) (x_low : D) (x_high : D) : Option D := (B_are_ints x_value x_low x_high).bind finP
noncomputable def b_are_ints : List D → Option (Fl (Unit) Empty (D))
  | [x_value, x_low, x_high] => B_are_ints x_value x_low x_high
  | _ => none
noncomputable def g_are_ints (ds : List D) : Option D := (b_are_ints ds).bind finP
noncomputable def B_is_told (x_value : D) (x_sizes : D) : Option (Fl (Unit) Empty (D)) :=
  ((andV ((some x_value).bind (dIsi "tuple")) (andV (bin dIn ((consO (some x_value) (some [])).bind dLen) (some x_sizes)) ((bin dIx (some x_value) (some (.int 0))).bind (dIsi "str")))).map fun d => .rt d)
noncomputable def M_is_told (x_value : D) (x_sizes : D) : Option D := (B_is_told x_value x_sizes).bind finP
noncomputable def b_is_told : List D → Option (Fl (Unit) Empty (D))
  | [x_value, x_sizes] => B_is_told x_value x_sizes
  | _ => none
noncomputable def g_is_told (ds : List D) : Option D := (b_is_told ds).bind finP
noncomputable def L1_is_hold  (l2 : Unit) (p3 : D) : Option (Fl (Unit) (Unit) (D)) :=
  (iteO (orT ((((some p3).bind (dIsi "tuple")).bind isB).map (!·)) (orT ((bin dNe ((consO (some p3) (some [])).bind dLen) (bin dPlus (some (.int 2)) (some (.int 1)))).bind isB) ((((bin dIx (some p3) (some (.int 2))).bind (dIsi "bool")).bind isB).map (!·)))) ((((some (.bool false)).map fun d => .rt d) : Option (Fl Empty (Unit) (D))).map castFl) (iteO (orT ((((consO (bin dIx (some p3) (some (.int 0))) (consO (some (.int 0)) (consO (some (.int 1)) (some [])))).bind g_is_int).bind isB).map (!·)) ((((consO (bin dIx (some p3) (some (.int 1))) (consO (some (.int 1)) (consO (some (.int 1000000)) (some [])))).bind g_is_int).bind isB).map (!·))) ((((some (.bool false)).map fun d => .rt d) : Option (Fl Empty (Unit) (D))).map castFl) (some (.nx ()))))
noncomputable def B_is_hold (x_value : D) : Option (Fl (Unit) Empty (D)) :=
  (iteO (orT ((((some x_value).bind (dIsi "tuple")).bind isB).map (!·)) (((chainO dLe dLe (some (.int 1)) ((consO (some x_value) (some [])).bind dLen) (some (.int 16))).bind isB).map (!·))) ((((some (.bool false)).map fun d => .rt d) : Option (Fl Empty (Empty) (D))).map castFl) ((((some x_value).bind iterS).bind fun its => forF (L := Unit) (R := D) (fun l x => (some x).bind (L1_is_hold l)) its ()).bind (seqLp fun l2 => ((some (.bool true)).map fun d => .rt d))))
noncomputable def M_is_hold (x_value : D) : Option D := (B_is_hold x_value).bind finP
noncomputable def b_is_hold : List D → Option (Fl (Unit) Empty (D))
  | [x_value] => B_is_hold x_value
  | _ => none
noncomputable def g_is_hold (ds : List D) : Option D := (b_is_hold ds).bind finP
noncomputable def B_look_at_hold (x_hold : D) (x_until : D) : Option (Fl (Unit) Empty (D)) :=
  (iteO ((((consO (some x_hold) (some [])).bind g_is_hold).bind isB).map (!·)) ((none : Option (Fl Empty (Empty) (D))).map castFl) (iteO ((((consO (some x_until) (consO (some (.int 0)) (consO (some (.int 2000)) (some [])))).bind g_is_int).bind isB).map (!·)) ((none : Option (Fl Empty (Empty) (D))).map castFl) (some (.nx ()))))
noncomputable def M_look_at_hold (x_hold : D) (x_until : D) : Option D := (B_look_at_hold x_hold x_until).bind finP
noncomputable def b_look_at_hold : List D → Option (Fl (Unit) Empty (D))
  | [x_hold, x_until] => B_look_at_hold x_hold x_until
  | _ => none
noncomputable def g_look_at_hold (ds : List D) : Option D := (b_look_at_hold ds).bind finP
noncomputable def L1_are_letters (x_until : D) (l2 : Unit) (p3 : D) : Option (Fl (Unit) (Unit) (D)) :=
  (iteO (orT ((((some p3).bind (dIsi "tuple")).bind isB).map (!·)) ((bin dNe ((consO (some p3) (some [])).bind dLen) (some (.int 2))).bind isB)) ((((some (.bool false)).map fun d => .rt d) : Option (Fl Empty (Unit) (D))).map castFl) (iteO (orT ((((consO (bin dIx (some p3) (some (.int 0))) (consO (some (.int 0)) (consO (some x_until) (some [])))).bind g_is_int).bind isB).map (!·)) ((((consO (bin dIx (some p3) (some (.int 1))) (consO (some (.int 0)) (consO (some (.int 1)) (some [])))).bind g_is_int).bind isB).map (!·))) ((((some (.bool false)).map fun d => .rt d) : Option (Fl Empty (Unit) (D))).map castFl) (some (.nx ()))))
noncomputable def B_are_letters (x_value : D) (x_until : D) : Option (Fl (Unit) Empty (D)) :=
  (iteO (orT ((((some x_value).bind (dIsi "tuple")).bind isB).map (!·)) ((bin dGt ((consO (some x_value) (some [])).bind dLen) (some (.int 4000))).bind isB)) ((((some (.bool false)).map fun d => .rt d) : Option (Fl Empty (Empty) (D))).map castFl) ((((some x_value).bind iterS).bind fun its => forF (L := Unit) (R := D) (fun l x => (some x).bind (L1_are_letters x_until l)) its ()).bind (seqLp fun l2 => (((consO ((lenOk (((consO (some x_value) (consO (slO dSl (some x_value) ((some (.int 1)).bind fun d => (isI d).map some) (some none)) (some []))).bind dZip2).bind (lcF (un2 some some) (fun p8 : (D × D) => some true) fun p8 : (D × D) => (bin dLt (some p8.1) (some p8.2))))).map .list) (some [])).bind dAll).map fun d => .rt d))))
noncomputable def M_are_letters (x_value : D) (x_until : D) : Option D := (B_are_letters x_value x_until).bind finP
noncomputable def b_are_letters : List D → Option (Fl (Unit) Empty (D))
  | [x_value, x_until] => B_are_letters x_value x_until
  | _ => none
noncomputable def g_are_letters (ds : List D) : Option D := (b_are_letters ds).bind finP
noncomputable def B_look_at_letters (x_hold : D) (x_letters : D) (x_until : D) : Option (Fl (Unit) Empty (D)) :=
  (((consO (some x_hold) (consO (some x_until) (some []))).bind g_look_at_hold).bind fun _ => (iteO ((((consO (some x_letters) (consO (some x_until) (some []))).bind g_are_letters).bind isB).map (!·)) ((none : Option (Fl Empty (Empty) (D))).map castFl) (some (.nx ()))))
noncomputable def M_look_at_letters (x_hold : D) (x_letters : D) (x_until : D) : Option D := (B_look_at_letters x_hold x_letters x_until).bind finP
noncomputable def b_look_at_letters : List D → Option (Fl (Unit) Empty (D))
  | [x_hold, x_letters, x_until] => B_look_at_letters x_hold x_letters x_until
  | _ => none
noncomputable def g_look_at_letters (ds : List D) : Option D := (b_look_at_letters ds).bind finP
noncomputable def B_told_ticks (x_box : D) (x_letters : D) : Option (Fl (Unit) Empty (List D)) :=
  (((some x_box).bind (un3 some some some)).bind fun v1 => ((lenOk (consO (some (.int 0)) (starO ((lenOk (((some x_letters).bind iterS).bind (lcF (un2 some some) (fun p2 : (D × D) => (orT ((some v1.2.2).bind isB) ((bin dEq (some p2.2) (some v1.1)).bind isB))) fun p2 : (D × D) => (some p2.1)))).map .list) (some [])))).map fun d => .rt d))
noncomputable def M_told_ticks (x_box : D) (x_letters : D) : Option (List D) := (B_told_ticks x_box x_letters).bind finF
noncomputable def b_told_ticks : List D → Option (Fl (Unit) Empty (List D))
  | [x_box, x_letters] => B_told_ticks x_box x_letters
  | _ => none
noncomputable def g_told_ticks (ds : List D) : Option (List D) := (b_told_ticks ds).bind finF
noncomputable def L1_told_loss (x_at : D) (x_box : D) (l12 : List D) (p13 : (D × D)) : Option (Fl (List D) (List D) (D)) :=
  (iteO ((bin dGt (bin dSub (some p13.2) (some p13.1)) (bin dIx (some x_box) (some (.int 1)))).bind isB) ((((((lenOk (consO (bin dPlus (bin dPlus (some p13.1) (bin dIx (some x_box) (some (.int 1)))) (some (.int 1))) (consO (some x_at) (consO (some p13.1) (consO (some p13.2) (some [])))))).map .tuple).bind (appD l12)).bind fun v15 => (some (.bk v15))) : Option (Fl Empty (List D) (D))).map castFl) (some (.nx l12)))
noncomputable def L2_told_loss (x_letters : D) (x_until : D) (l2 : List D) (p3 : (D × D)) : Option (Fl (List D) (List D) (D)) :=
  (((lenOk (starO (((consO (some p3.2) (consO (some x_letters) (some []))).bind g_told_ticks).map .list) (consO (some x_until) (some [])))).map .list).bind fun v4 => ((((consO (some v4) (consO (slO dSl (some v4) ((some (.int 1)).bind fun d => (isI d).map some) (some none)) (some []))).bind dZip2).bind fun its => forF (L := List D) (R := D) (fun l x => ((un2 some some) x).bind (L1_told_loss p3.1 p3.2 l)) its l2).bind (seqLp fun l5 => (some (.nx l5)))))
noncomputable def B_told_loss (x_hold : D) (x_letters : D) (x_until : D) : Option (Fl (Unit) Empty (D)) :=
  ((lenOk (some [])).bind fun v1 => ((((some x_hold).bind enumD).bind fun its => forF (L := List D) (R := D) (fun l x => ((un2 some some) x).bind (L2_told_loss x_letters x_until l)) its v1).bind (seqLp fun l2 => ((iteO ((bin dNe (some (.list l2)) ((lenOk (some [])).map .list)).bind isB) ((consO (some (.list l2)) (some [])).bind dMin) (some .none)).map fun d => .rt d))))
noncomputable def M_told_loss (x_hold : D) (x_letters : D) (x_until : D) : Option D := (B_told_loss x_hold x_letters x_until).bind finP
noncomputable def b_told_loss : List D → Option (Fl (Unit) Empty (D))
  | [x_hold, x_letters, x_until] => B_told_loss x_hold x_letters x_until
  | _ => none
noncomputable def g_told_loss (ds : List D) : Option D := (b_told_loss ds).bind finP
noncomputable def B_held (x_hold : D) (x_letters : D) (x_until : D) : Option (Fl (Unit) Empty (D)) :=
  (((consO (some x_hold) (consO (some x_letters) (consO (some x_until) (some [])))).bind g_look_at_letters).bind fun _ => (((consO (some x_hold) (consO (some x_letters) (consO (some x_until) (some [])))).bind g_told_loss).bind fun v1 => ((iteO ((bin dIs (some v1) (some .none)).bind isB) ((lenOk (consO (some (.str "held")) (some []))).map .tuple) ((lenOk (consO (some (.str "lost")) (starO (slO dSl (some v1) ((some (.int 1)).bind fun d => (isI d).map some) (some none)) (some [])))).map .tuple)).map fun d => .rt d)))
noncomputable def M_held (x_hold : D) (x_letters : D) (x_until : D) : Option D := (B_held x_hold x_letters x_until).bind finP
noncomputable def b_held : List D → Option (Fl (Unit) Empty (D))
  | [x_hold, x_letters, x_until] => B_held x_hold x_letters x_until
  | _ => none
noncomputable def g_held (ds : List D) : Option D := (b_held ds).bind finP
noncomputable def B_shows_held (x_hold : D) (x_letters : D) (x_until : D) (x_value : D) : Option (Fl (Unit) Empty (D)) :=
  (((consO (some x_hold) (consO (some x_letters) (consO (some x_until) (some [])))).bind g_look_at_letters).bind fun _ => (iteO ((((consO (some x_value) (consO ((lenOk (consO (some (.int 1)) (consO (some (.int 4)) (some [])))).map .tuple) (some []))).bind g_is_told).bind isB).map (!·)) ((((some (.bool false)).map fun d => .rt d) : Option (Fl Empty (Empty) (D))).map castFl) (iteO ((bin dEq ((consO (some x_value) (some [])).bind dLen) (some (.int 1))).bind isB) ((((andV (bin dEq (bin dIx (some x_value) (some (.int 0))) (some (.str "held"))) (bin dIs ((consO (some x_hold) (consO (some x_letters) (consO (some x_until) (some [])))).bind g_told_loss) (some .none))).map fun d => .rt d) : Option (Fl Empty (Empty) (D))).map castFl) (((slO dSl (some x_value) ((some (.int 1)).bind fun d => (isI d).map some) (some none)).bind (un3 some some some)).bind fun v3 => (iteO (orT ((bin dNe (bin dIx (some x_value) (some (.int 0))) (some (.str "lost"))).bind isB) ((((consO (some v3.1) (consO (some (.int 0)) (consO (bin dSub ((consO (some x_hold) (some [])).bind dLen) (some (.int 1))) (some [])))).bind g_is_int).bind isB).map (!·))) ((((some (.bool false)).map fun d => .rt d) : Option (Fl Empty (Empty) (D))).map castFl) (iteO (orT ((((consO (some v3.2.1) (consO (some (.int 0)) (consO (some x_until) (some [])))).bind g_is_int).bind isB).map (!·)) ((((consO (some v3.2.2) (consO (some v3.2.1) (consO (some x_until) (some [])))).bind g_is_int).bind isB).map (!·))) ((((some (.bool false)).map fun d => .rt d) : Option (Fl Empty (Empty) (D))).map castFl) (((lenOk (starO (((consO (bin dIx (some x_hold) (some v3.1)) (consO (some x_letters) (some []))).bind g_told_ticks).map .list) (consO (some x_until) (some [])))).map .list).bind fun v6 => ((andV (bin dGt (bin dSub (some v3.2.2) (some v3.2.1)) (bin dIx (bin dIx (some x_hold) (some v3.1)) (some (.int 1)))) (bin dIn ((lenOk (consO (some v3.2.1) (consO (some v3.2.2) (some [])))).map .tuple) (((consO (some v6) (consO (slO dSl (some v6) ((some (.int 1)).bind fun d => (isI d).map some) (some none)) (some []))).bind dZip2).map .list))).map fun d => .rt d))))))))
noncomputable def M_shows_held (x_hold : D) (x_letters : D) (x_until : D) (x_value : D) : Option D := (B_shows_held x_hold x_letters x_until x_value).bind finP
noncomputable def b_shows_held : List D → Option (Fl (Unit) Empty (D))
  | [x_hold, x_letters, x_until, x_value] => B_shows_held x_hold x_letters x_until x_value
  | _ => none
noncomputable def g_shows_held (ds : List D) : Option D := (b_shows_held ds).bind finP
noncomputable def B_first_loss (x_hold : D) (x_letters : D) (x_until : D) : Option (Fl (Unit) Empty (D)) :=
  (((consO (some x_hold) (consO (some x_letters) (consO (some x_until) (some [])))).bind g_look_at_letters).bind fun _ => (((consO (some x_hold) (consO (some x_letters) (consO (some x_until) (some [])))).bind g_told_loss).bind fun v1 => ((iteO ((bin dIs (some v1) (some .none)).bind isB) (some .none) (bin dIx (some v1) (some (.int 0)))).map fun d => .rt d)))
noncomputable def M_first_loss (x_hold : D) (x_letters : D) (x_until : D) : Option D := (B_first_loss x_hold x_letters x_until).bind finP
noncomputable def b_first_loss : List D → Option (Fl (Unit) Empty (D))
  | [x_hold, x_letters, x_until] => B_first_loss x_hold x_letters x_until
  | _ => none
noncomputable def g_first_loss (ds : List D) : Option D := (b_first_loss ds).bind finP
noncomputable def L1_told_keeps (x_hold : D) (x_never : D) (l3 : List D) (p4 : D) : Option (Fl (List D) (List D) (D)) :=
  ((((consO ((lenOk (consO (some x_never) (starO ((lenOk (((some x_hold).bind iterS).bind (lcF (un3 some some some) (fun p6 : (D × D × D) => (andT ((bin dEq (some p6.1) (some p4)).bind isB) (((some p6.2.2).bind isB).map (!·)))) fun p6 : (D × D × D) => (some p6.2.1)))).map .list) (some [])))).map .list) (some [])).bind dMin).bind (appD l3)).bind fun v5 => (some (.nx v5)))
noncomputable def B_told_keeps (x_hold : D) : Option (Fl (Unit) Empty (D)) :=
  ((bin dMul (some (.int 1000000)) (some (.int 1000000))).bind fun v1 => ((lenOk (some [])).bind fun v2 => (((((lenOk (consO (some (.int 0)) (consO (some (.int 1)) (some [])))).map .tuple).bind iterS).bind fun its => forF (L := List D) (R := D) (fun l x => (some x).bind (L1_told_keeps x_hold v1 l)) its v2).bind (seqLp fun l3 => (((lenOk (starO (some (.list l3)) (consO ((consO ((lenOk (consO (some v1) (starO ((lenOk (((some x_hold).bind iterS).bind (lcF (un3 some some some) (fun p9 : (D × D × D) => ((some p9.2.2).bind isB)) fun p9 : (D × D × D) => (some p9.2.1)))).map .list) (some [])))).map .list) (some [])).bind dMin) (some [])))).map .tuple).map fun d => .rt d)))))
noncomputable def M_told_keeps (x_hold : D) : Option D := (B_told_keeps x_hold).bind finP
noncomputable def b_told_keeps : List D → Option (Fl (Unit) Empty (D))
  | [x_hold] => B_told_keeps x_hold
  | _ => none
noncomputable def g_told_keeps (ds : List D) : Option D := (b_told_keeps ds).bind finP
noncomputable def B_told_limit (x_keeps : D) (x_last : D) : Option (Fl (Unit) Empty (D)) :=
  (((consO (bin dPlus (bin dIx (some x_last) (some (.int 0))) (bin dIx (some x_keeps) (some (.int 0)))) (consO (bin dPlus (bin dIx (some x_last) (some (.int 1))) (bin dIx (some x_keeps) (some (.int 1)))) (consO (bin dPlus ((consO (some x_last) (some [])).bind dMax) (bin dIx (some x_keeps) (some (.int 2)))) (some [])))).bind dMin).map fun d => .rt d)
noncomputable def M_told_limit (x_keeps : D) (x_last : D) : Option D := (B_told_limit x_keeps x_last).bind finP
noncomputable def b_told_limit : List D → Option (Fl (Unit) Empty (D))
  | [x_keeps, x_last] => B_told_limit x_keeps x_last
  | _ => none
noncomputable def g_told_limit (ds : List D) : Option D := (b_told_limit ds).bind finP
noncomputable def B_is_worse (x_one : D) (x_other : D) : Option (Fl (Unit) Empty (D)) :=
  ((andV (bin dNe (some x_one) (some x_other)) (andV (bin dLe (bin dIx (some x_one) (some (.int 0))) (bin dIx (some x_other) (some (.int 0)))) (bin dLe (bin dIx (some x_one) (some (.int 1))) (bin dIx (some x_other) (some (.int 1)))))).map fun d => .rt d)
noncomputable def M_is_worse (x_one : D) (x_other : D) : Option D := (B_is_worse x_one x_other).bind finP
noncomputable def b_is_worse : List D → Option (Fl (Unit) Empty (D))
  | [x_one, x_other] => B_is_worse x_one x_other
  | _ => none
noncomputable def g_is_worse (ds : List D) : Option D := (b_is_worse ds).bind finP
noncomputable def L1_told_fewest (x_ahead : List (D × D)) (l59 : List D × D) : Option (Fl (List D × D) (List D × D) (D)) :=
  ((((some l59.2).bind fun q => (keysOf q).bind (getT x_ahead)).bind (un2 some some)).bind fun v61 => (((some v61.2).bind (appD l59.1)).bind fun v62 => (some (.nx (v62, v61.1)))))
noncomputable def L2_told_fewest (x_last : D) (x_tick : D) (l86 : List (D × D) × List D) (p87 : D) : Option (Fl (List (D × D) × List D) (List (D × D) × List D) (D)) :=
  ((iteO ((bin dEq (some p87) (some (.int 0))).bind isB) ((lenOk (consO (some x_tick) (consO (bin dIx (some x_last) (some (.int 1))) (some [])))).map .tuple) ((lenOk (consO (bin dIx (some x_last) (some (.int 0))) (consO (some x_tick) (some [])))).map .tuple)).bind fun v88 => ((iteO ((some v88).bind fun q => (keysOf q).map fun ks => !(getT l86.1 ks).isSome) ((((lenOk (consO (some x_last) (consO ((lenOk (consO (some x_tick) (consO (some p87) (some [])))).map .tuple) (some [])))).map .tuple).bind fun d => (some v88).bind fun q => setT l86.1 q d).bind fun v93 => (((some v88).bind (appD l86.2)).bind fun v94 => (some (.nx (v93, v94))))) (some (.nx (l86.1, l86.2))) : Option (Fl (List (D × D) × List D) (List (D × D) × List D) (D))).bind (seqFl fun n92 => (some (.nx (n92.1, n92.2))))))
noncomputable def L3_told_fewest (x_keeps : D) (l66 : List (D × D) × List D) (p67 : D) : Option (Fl (List (D × D) × List D) (List (D × D) × List D) (D)) :=
  (((consO (some x_keeps) (consO (some p67) (some []))).bind g_told_limit).bind fun v68 => (((((lenOk (consO (some (.int 0)) (consO (some (.int 1)) (some [])))).map .tuple).bind iterS).bind fun its => forF (L := List (D × D) × List D) (R := D) (fun l x => (some x).bind (L2_told_fewest p67 v68 l)) its (l66.1, l66.2)).bind (seqLp fun l69 => (some (.nx (l69.1, l69.2))))))
noncomputable def L4_told_fewest (x_until : D) (x_keeps : D) (l3 : D × List (D × D)) : Option (Fl (D × List (D × D)) (D × List (D × D)) (D)) :=
  ((lenOk (((some l3.1).bind iterS).bind (lcF some (fun p6 : D => ((bin dGe ((consO (some x_keeps) (consO (some p6) (some []))).bind g_told_limit) (some x_until)).bind isB)) fun p6 : D => (some p6)))).bind fun v5 => (iteO ((bin dNe (some ((PyData.list v5))) ((lenOk (some [])).map .list)).bind isB) ((((two (T := Unit) (liftX fun _ => (lenOk (some []))) (liftX fun _ => (bin dIx (some ((PyData.list v5))) (some (.int 0)))) ()).bind fun v8 => ((whileF (L := List D × D) (R := D) (fun l9 => ((bin dIsNot ((some l9.2).bind fun q => (keysOf q).bind (getT l3.2)) (some .none)).bind isB)) (L1_told_fewest l3.2) 1000000 (v8.1.1, v8.1.2)).bind (seqLp fun l9 => ((((some (.list l9.1)).bind revL).map .list).map fun d => .rt d)))) : Option (Fl Empty (D × List (D × D)) (D))).map castFl) ((lenOk (some [])).bind fun v15 => ((((some l3.1).bind iterS).bind fun its => forF (L := List (D × D) × List D) (R := D) (fun l x => (some x).bind (L3_told_fewest x_keeps l)) its (l3.2, v15)).bind (seqLp fun l16 => ((lenOk (((some (.list l16.2)).bind iterT).bind (lcF some (fun p53 : D => ((((consO ((lenOk (((some (.list l16.2)).bind iterT).bind (lcF some (fun p54 : D => some true) fun p54 : D => ((consO (some p53) (consO (some p54) (some []))).bind g_is_worse)))).map .list) (some [])).bind dAny).bind isB).map (!·))) fun p53 : D => (some p53)))).bind fun v52 => (some (.nx ((PyData.list v52), l16.1)))))))))
noncomputable def B_told_fewest (x_hold : D) (x_until : D) : Option (Fl (Unit) Empty (D)) :=
  ((((lenOk (consO ((consO (some x_hold) (some [])).bind g_told_keeps) (consO ((lenOk (consO (some (.int 0)) (consO (some (.int 0)) (some [])))).map .tuple) (some [])))).map .tuple).bind (un2 some some)).bind fun v1 => ((two (T := Unit) (liftX fun _ => ((lenOk (consO (some v1.2) (some []))).map .list)) (liftX fun _ => (some v1.2).bind fun kd => (keysOf kd).bind fun ks => (some .none).map fun d => [(keyDs ks, d)]) ()).bind fun v2 => ((whileF (L := D × List (D × D)) (R := D) (fun l3 => ((some (.bool true)).bind isB)) (L4_told_fewest x_until v1.1) 1000000 (v2.1.1, v2.1.2)).bind (seqLp fun l3 => (some (.nx ()))))))
noncomputable def M_told_fewest (x_hold : D) (x_until : D) : Option D := (B_told_fewest x_hold x_until).bind finP
noncomputable def b_told_fewest : List D → Option (Fl (Unit) Empty (D))
  | [x_hold, x_until] => B_told_fewest x_hold x_until
  | _ => none
noncomputable def g_told_fewest (ds : List D) : Option D := (b_told_fewest ds).bind finP
noncomputable def B_fewest_letters (x_hold : D) (x_until : D) : Option (Fl (Unit) Empty (D)) :=
  (((consO (some x_hold) (consO (some x_until) (some []))).bind g_look_at_hold).bind fun _ => (((consO ((consO (some x_hold) (consO (some x_until) (some []))).bind g_told_fewest) (some [])).bind dTuple).map fun d => .rt d))
noncomputable def M_fewest_letters (x_hold : D) (x_until : D) : Option D := (B_fewest_letters x_hold x_until).bind finP
noncomputable def b_fewest_letters : List D → Option (Fl (Unit) Empty (D))
  | [x_hold, x_until] => B_fewest_letters x_hold x_until
  | _ => none
noncomputable def g_fewest_letters (ds : List D) : Option D := (b_fewest_letters ds).bind finP
noncomputable def B_shows_fewest_letters (x_hold : D) (x_until : D) (x_value : D) : Option (Fl (Unit) Empty (D)) :=
  (((consO (some x_hold) (consO (some x_until) (some []))).bind g_look_at_hold).bind fun _ => (iteO (orT ((((consO (some x_value) (consO (some x_until) (some []))).bind g_are_letters).bind isB).map (!·)) ((bin dIsNot ((consO (some x_hold) (consO (some x_value) (consO (some x_until) (some [])))).bind g_told_loss) (some .none)).bind isB)) ((((some (.bool false)).map fun d => .rt d) : Option (Fl Empty (Empty) (D))).map castFl) ((bin dEq ((consO (some x_value) (some [])).bind dLen) ((consO ((consO (some x_hold) (consO (some x_until) (some []))).bind g_told_fewest) (some [])).bind dLen)).map fun d => .rt d)))
noncomputable def M_shows_fewest_letters (x_hold : D) (x_until : D) (x_value : D) : Option D := (B_shows_fewest_letters x_hold x_until x_value).bind finP
noncomputable def b_shows_fewest_letters : List D → Option (Fl (Unit) Empty (D))
  | [x_hold, x_until, x_value] => B_shows_fewest_letters x_hold x_until x_value
  | _ => none
noncomputable def g_shows_fewest_letters (ds : List D) : Option D := (b_shows_fewest_letters ds).bind finP
noncomputable def L1_look_at_spans (x_spans : D) (l2 : Unit) (p3 : D) : Option (Fl (Unit) (Unit) (D)) :=
  (iteO (orT ((((consO (some p3) (consO ((some (.int 1000000000000)).bind dNeg) (consO (some (.int 1000000000000)) (some [])))).bind g_are_ints).bind isB).map (!·)) (orT ((bin dNe ((consO (some p3) (some [])).bind dLen) (some (.int 2))).bind isB) ((bin dGt (bin dIx (some p3) (some (.int 0))) (bin dIx (some p3) (some (.int 1)))).bind isB))) ((none : Option (Fl Empty (Unit) (D))).map castFl) (some (.nx ())))
noncomputable def B_look_at_spans (x_spans : D) : Option (Fl (Unit) Empty (D)) :=
  (iteO (orT ((((some x_spans).bind (dIsi "tuple")).bind isB).map (!·)) (((chainO dLe dLe (some (.int 1)) ((consO (some x_spans) (some [])).bind dLen) (some (.int 200))).bind isB).map (!·))) ((none : Option (Fl Empty (Empty) (D))).map castFl) ((((some x_spans).bind iterS).bind fun its => forF (L := Unit) (R := D) (fun l x => (some x).bind (L1_look_at_spans x_spans l)) its ()).bind (seqLp fun l2 => (some (.nx ())))))
noncomputable def M_look_at_spans (x_spans : D) : Option D := (B_look_at_spans x_spans).bind finP
noncomputable def b_look_at_spans : List D → Option (Fl (Unit) Empty (D))
  | [x_spans] => B_look_at_spans x_spans
  | _ => none
noncomputable def g_look_at_spans (ds : List D) : Option D := (b_look_at_spans ds).bind finP
noncomputable def L1_told_points  (l2 : List D × List D) (p3 : (D × D × D)) : Option (Fl (List D × List D) (List D × List D) (D)) :=
  ((iteO (orT ((bin dEq (some (.list l2.1)) ((lenOk (some [])).map .list)).bind isB) ((bin dLt (bin dIx (some (.list l2.1)) ((some (.int 1)).bind dNeg)) (some p3.2.1)).bind isB)) (((some p3.1).bind (appD l2.1)).bind fun v8 => (((some p3.2.2).bind (appD l2.2)).bind fun v9 => (some (.nx (v8, v9))))) (some (.nx (l2.1, l2.2))) : Option (Fl (List D × List D) (List D × List D) (D))).bind (seqFl fun n7 => (some (.nx (n7.1, n7.2)))))
noncomputable def B_told_points (x_spans : D) : Option (Fl (Unit) Empty (D)) :=
  ((two (T := Unit) (liftX fun _ => (lenOk (some []))) (liftX fun _ => (lenOk (some []))) ()).bind fun v1 => ((((((consO ((lenOk (((some x_spans).bind enumD).bind (lcF (un2 some some) (fun p16 : (D × D) => some true) fun p16 : (D × D) => ((lenOk (consO (bin dIx (some p16.2) (some (.int 1))) (consO (bin dIx (some p16.2) (some (.int 0))) (consO (some p16.1) (some []))))).map .tuple)))).map .list) (some [])).bind dSorted).map .list).bind iterS).bind fun its => forF (L := List D × List D) (R := D) (fun l x => ((un3 some some some) x).bind (L1_told_points l)) its (v1.1.1, v1.1.2)).bind (seqLp fun l2 => (((lenOk (consO ((consO (some (.list l2.1)) (some [])).bind dTuple) (consO ((consO (((consO (some (.list l2.2)) (some [])).bind dSorted).map .list) (some [])).bind dTuple) (some [])))).map .tuple).map fun d => .rt d))))
noncomputable def M_told_points (x_spans : D) : Option D := (B_told_points x_spans).bind finP
noncomputable def b_told_points : List D → Option (Fl (Unit) Empty (D))
  | [x_spans] => B_told_points x_spans
  | _ => none
noncomputable def g_told_points (ds : List D) : Option D := (b_told_points ds).bind finP
noncomputable def B_fewest_numbers (x_spans : D) : Option (Fl (Unit) Empty (D)) :=
  (((consO (some x_spans) (some [])).bind g_look_at_spans).bind fun _ => (((consO (some x_spans) (some [])).bind g_told_points).map fun d => .rt d))
noncomputable def M_fewest_numbers (x_spans : D) : Option D := (B_fewest_numbers x_spans).bind finP
noncomputable def b_fewest_numbers : List D → Option (Fl (Unit) Empty (D))
  | [x_spans] => B_fewest_numbers x_spans
  | _ => none
noncomputable def g_fewest_numbers (ds : List D) : Option D := (b_fewest_numbers ds).bind finP
noncomputable def B_shows_fewest_numbers (x_spans : D) (x_value : D) : Option (Fl (Unit) Empty (D)) :=
  (((consO (some x_spans) (some [])).bind g_look_at_spans).bind fun _ => (iteO (orT ((((some x_value).bind (dIsi "tuple")).bind isB).map (!·)) (orT ((bin dNe ((consO (some x_value) (some [])).bind dLen) (some (.int 2))).bind isB) ((((consO (bin dIx (some x_value) (some (.int 0))) (consO ((some (.int 1000000000000)).bind dNeg) (consO (some (.int 1000000000000)) (some [])))).bind g_are_ints).bind isB).map (!·)))) ((((some (.bool false)).map fun d => .rt d) : Option (Fl Empty (Empty) (D))).map castFl) (((some x_value).bind (un2 some some)).bind fun v2 => (iteO (orT ((((consO (some v2.2) (consO (some (.int 0)) (consO (bin dSub ((consO (some x_spans) (some [])).bind dLen) (some (.int 1))) (some [])))).bind g_are_ints).bind isB).map (!·)) (orT ((bin dNe ((some v2.2).bind dLSet) ((consO (some v2.2) (some [])).bind dLen)).bind isB) ((bin dNe ((consO (some v2.2) (some [])).bind dLen) ((consO (some v2.1) (some [])).bind dLen)).bind isB))) ((((some (.bool false)).map fun d => .rt d) : Option (Fl Empty (Empty) (D))).map castFl) ((((consO ((lenOk (((some v2.2).bind iterS).bind (lcF some (fun p5 : D => some true) fun p5 : D => (bin dIx (some x_spans) (some p5))))).map .list) (some [])).bind dSorted).map .list).bind fun v4 => (iteO ((((consO ((lenOk (((consO (some v4) (consO (slO dSl (some v4) ((some (.int 1)).bind fun d => (isI d).map some) (some none)) (some []))).bind dZip2).bind (lcF (un2 some some) (fun p7 : (D × D) => some true) fun p7 : (D × D) => (bin dLt (bin dIx (some p7.1) (some (.int 1))) (bin dIx (some p7.2) (some (.int 0))))))).map .list) (some [])).bind dAll).bind isB).map (!·)) ((((some (.bool false)).map fun d => .rt d) : Option (Fl Empty (Empty) (D))).map castFl) (((consO ((lenOk (((some x_spans).bind iterS).bind (lcF some (fun p8 : D => some true) fun p8 : D => ((consO ((lenOk (((some v2.1).bind iterS).bind (lcF some (fun p9 : D => some true) fun p9 : D => (chainO dLe dLe (bin dIx (some p8) (some (.int 0))) (some p9) (bin dIx (some p8) (some (.int 1))))))).map .list) (some [])).bind dAny)))).map .list) (some [])).bind dAll).map fun d => .rt d)))))))
noncomputable def M_shows_fewest_numbers (x_spans : D) (x_value : D) : Option D := (B_shows_fewest_numbers x_spans x_value).bind finP
noncomputable def b_shows_fewest_numbers : List D → Option (Fl (Unit) Empty (D))
  | [x_spans, x_value] => B_shows_fewest_numbers x_spans x_value
  | _ => none
noncomputable def g_shows_fewest_numbers (ds : List D) : Option D := (b_shows_fewest_numbers ds).bind finP
noncomputable def L1_are_stays  (l2 : Unit) (p3 : D) : Option (Fl (Unit) (Unit) (D)) :=
  (iteO (orT ((((consO (some p3) (consO (some (.int 0)) (consO (some (.int 1000000)) (some [])))).bind g_are_ints).bind isB).map (!·)) (orT ((bin dNe ((consO (some p3) (some [])).bind dLen) (some (.int 2))).bind isB) ((bin dGe (bin dIx (some p3) (some (.int 0))) (bin dIx (some p3) (some (.int 1)))).bind isB))) ((((some (.bool false)).map fun d => .rt d) : Option (Fl Empty (Unit) (D))).map castFl) (some (.nx ())))
noncomputable def B_are_stays (x_value : D) : Option (Fl (Unit) Empty (D)) :=
  (iteO (orT ((((some x_value).bind (dIsi "tuple")).bind isB).map (!·)) ((bin dGt ((consO (some x_value) (some [])).bind dLen) (some (.int 40))).bind isB)) ((((some (.bool false)).map fun d => .rt d) : Option (Fl Empty (Empty) (D))).map castFl) ((((some x_value).bind iterS).bind fun its => forF (L := Unit) (R := D) (fun l x => (some x).bind (L1_are_stays l)) its ()).bind (seqLp fun l2 => ((some (.bool true)).map fun d => .rt d))))
noncomputable def M_are_stays (x_value : D) : Option D := (B_are_stays x_value).bind finP
noncomputable def b_are_stays : List D → Option (Fl (Unit) Empty (D))
  | [x_value] => B_are_stays x_value
  | _ => none
noncomputable def g_are_stays (ds : List D) : Option D := (b_are_stays ds).bind finP
noncomputable def B_look_at_stays (x_stays : D) : Option (Fl (Unit) Empty (D)) :=
  (iteO ((((consO (some x_stays) (some [])).bind g_are_stays).bind isB).map (!·)) ((none : Option (Fl Empty (Empty) (D))).map castFl) (some (.nx ())))
noncomputable def M_look_at_stays (x_stays : D) : Option D := (B_look_at_stays x_stays).bind finP
noncomputable def b_look_at_stays : List D → Option (Fl (Unit) Empty (D))
  | [x_stays] => B_look_at_stays x_stays
  | _ => none
noncomputable def g_look_at_stays (ds : List D) : Option D := (b_look_at_stays ds).bind finP
noncomputable def B_told_there (x_stays : D) (x_tick : D) : Option (Fl (Unit) Empty (List D)) :=
  ((lenOk (((some x_stays).bind enumD).bind (lcF (un2 some (un2 some some)) (fun p1 : (D × (D × D)) => ((chainO dLe dLt (some p1.2.1) (some x_tick) (some p1.2.2)).bind isB)) fun p1 : (D × (D × D)) => (some p1.1)))).map fun d => .rt d)
noncomputable def M_told_there (x_stays : D) (x_tick : D) : Option (List D) := (B_told_there x_stays x_tick).bind finF
noncomputable def b_told_there : List D → Option (Fl (Unit) Empty (List D))
  | [x_stays, x_tick] => B_told_there x_stays x_tick
  | _ => none
noncomputable def g_told_there (ds : List D) : Option (List D) := (b_told_there ds).bind finF
noncomputable def B_there_at (x_stays : D) (x_tick : D) : Option (Fl (Unit) Empty (D)) :=
  (((consO (some x_stays) (some [])).bind g_look_at_stays).bind fun _ => (iteO ((((consO (some x_tick) (consO (some (.int 0)) (consO (some (.int 1000000)) (some [])))).bind g_is_int).bind isB).map (!·)) ((none : Option (Fl Empty (Empty) (D))).map castFl) (((consO (((consO (some x_stays) (consO (some x_tick) (some []))).bind g_told_there).map .list) (some [])).bind dTuple).map fun d => .rt d)))
noncomputable def M_there_at (x_stays : D) (x_tick : D) : Option D := (B_there_at x_stays x_tick).bind finP
noncomputable def b_there_at : List D → Option (Fl (Unit) Empty (D))
  | [x_stays, x_tick] => B_there_at x_stays x_tick
  | _ => none
noncomputable def g_there_at (ds : List D) : Option D := (b_there_at ds).bind finP
noncomputable def L1_ticks_used  (l2 : D × D) (p3 : (D × D)) : Option (Fl (D × D) (D × D) (D)) :=
  ((((consO (some (.int 0)) (consO (bin dSub (some p3.2) ((consO (some p3.1) (consO (some l2.2) (some []))).bind dMax)) (some []))).bind dMax).bind (iAdd l2.1)).bind fun v4 => (((consO (some l2.2) (consO (some p3.2) (some []))).bind dMax).bind fun v5 => (some (.nx (v4, v5)))))
noncomputable def B_ticks_used (x_stays : D) : Option (Fl (Unit) Empty (D)) :=
  (((consO (some x_stays) (some [])).bind g_look_at_stays).bind fun _ => ((((lenOk (consO (some (.int 0)) (consO (some (.int 0)) (some [])))).map .tuple).bind (un2 some some)).bind fun v1 => ((((((consO (some x_stays) (some [])).bind dSorted).map .list).bind iterS).bind fun its => forF (L := D × D) (R := D) (fun l x => ((un2 some some) x).bind (L1_ticks_used l)) its (v1.1, v1.2)).bind (seqLp fun l2 => ((some l2.1).map fun d => .rt d)))))
noncomputable def M_ticks_used (x_stays : D) : Option D := (B_ticks_used x_stays).bind finP
noncomputable def b_ticks_used : List D → Option (Fl (Unit) Empty (D))
  | [x_stays] => B_ticks_used x_stays
  | _ => none
noncomputable def g_ticks_used (ds : List D) : Option D := (b_ticks_used ds).bind finP
noncomputable def B__law_pot (x_script : D) (x_place : D) : Option (Fl (Unit) Empty (List D)) :=
  ((iteO ((bin dLt (some x_place) ((consO (some x_script) (some [])).bind dLen)).bind isB) (bin dIx (some x_script) (some x_place)) (bin dPlus (bin dPlus (bin dMod ((consO ((consO (slO dSl (some x_script) (some none) ((some (.int 1)).bind fun d => (isI d).map some)) (some [])).bind dSum) (some [])).bind dInt) (some (.int 1000211))) (bin dMul (some (.int 4639)) (some x_place))) (some (.int 3163)))).bind fun v1 => ((bin dMul (bin dMod ((consO ((consO (some v1) (some [])).bind dAbs) (some [])).bind dInt) (bin dPow (bin dPow (some (.int 10)) (some (.int 60))) (some (.int 5)))) ((consO (bin dGe ((consO (some v1) (some [])).bind dAbs) (bin dPow (some (.int 10)) (some (.int 18)))) (some [])).bind dInt)).bind fun v2 => ((bin dMod ((consO (some v1) (some [])).bind dInt) (some (.int 2305843009213693951))).bind fun v3 => ((lenOk (consO (some v2) (consO (bin dMod ((consO (bin dPlus (bin dPlus (bin dMul (some v3) (some (.int 72161))) (bin dMul (bin dMul (some (.int 10853)) (some x_place)) (some x_place))) (some (.int 2843))) (some [])).bind dInt) (some (.int 2305843009213693921))) (consO (some (.int 0)) (some []))))).map fun d => .rt d))))
noncomputable def M__law_pot (x_script : D) (x_place : D) : Option (List D) := (B__law_pot x_script x_place).bind finF
noncomputable def b__law_pot : List D → Option (Fl (Unit) Empty (List D))
  | [x_script, x_place] => B__law_pot x_script x_place
  | _ => none
noncomputable def g__law_pot (ds : List D) : Option (List D) := (b__law_pot ds).bind finF
noncomputable def B__law_take (x_pot : List D) (x_upto : D) : Option (Fl (List D) Empty (D × List D)) :=
  (iteO ((bin dGt (bin dIx (some (.list x_pot)) (some (.int 0))) (some (.int 0))).bind isB) ((((bin dMod ((consO (bin dIx (some (.list x_pot)) (some (.int 0))) (some [])).bind dInt) (some x_upto)).bind fun v2 => (((bin dFdiv (bin dIx (some (.list x_pot)) (some (.int 0))) (some x_upto)).bind fun d => (some (.int 0)).bind fun q => setD x_pot q d).bind fun v3 => ((some v2).map fun d => .rt (d, v3)))) : Option (Fl Empty (Empty) (D × List D))).map castFl) (((bin dPlus (bin dIx (some (.list x_pot)) (some (.int 2))) (some (.int 1))).bind fun d => (some (.int 2)).bind fun q => setD x_pot q d).bind fun v4 => ((bin dIx ((lenOk (consO (some (.int 2147483647)) (consO (some (.int 2147483629)) (consO (some (.int 2147483587)) (consO (some (.int 2147483579)) (consO (some (.int 2147483563)) (some []))))))).map .list) (bin dMod ((consO (bin dIx (some (.list v4)) (some (.int 2))) (some [])).bind dInt) (some (.int 5)))).bind fun v5 => ((bin dMod ((consO (bin dPow ((consO (bin dPlus (bin dPlus (bin dIx (some (.list v4)) (some (.int 1))) (bin dMul (bin dMul (some (.int 95257)) (bin dIx (some (.list v4)) (some (.int 2)))) (bin dIx (some (.list v4)) (some (.int 2))))) (some (.int 3163))) (some [])).bind dInt) (some (.int 3))) (some [])).bind dInt) (some v5)).bind fun v6 => ((bin dMod ((consO (bin dMul (some v6) (bin dPlus (bin dMod ((consO (some v6) (some [])).bind dInt) (some (.int 13441))) (bin dMul (some (.int 419)) (bin dIx (some (.list v4)) (some (.int 2)))))) (some [])).bind dInt) (some (.int 2305843009213693907))).bind fun v7 => ((bin dMod ((consO (bin dFdiv (some v7) (some (.int 229))) (some [])).bind dInt) (some x_upto)).map fun d => .rt (d, v4)))))))
noncomputable def M__law_take (x_pot : List D) (x_upto : D) : Option (D × List D) := (B__law_take x_pot x_upto).bind finM
noncomputable def b__law_take (qs : List D) : List D → Option (Fl (List D) Empty (D × List D))
  | [x_upto] => B__law_take qs x_upto
  | _ => none
noncomputable def g__law_take (qs ds : List D) : Option (D × List D) := (b__law_take qs ds).bind finM
noncomputable def B__law_of (x_pot : List D) (x_some : D) : Option (Fl (List D) Empty (D × List D)) :=
  (((binX dIx (liftX fun p => (some x_some)) (fun ps => ((consX (liftX fun p => ((consO (some x_some) (some [])).bind dLen)) (fun t => some ([], t))) ps).bind fun q => g__law_take q.2 q.1)) x_pot).map fun q => .rt q)
noncomputable def M__law_of (x_pot : List D) (x_some : D) : Option (D × List D) := (B__law_of x_pot x_some).bind finM
noncomputable def b__law_of (qs : List D) : List D → Option (Fl (List D) Empty (D × List D))
  | [x_some] => B__law_of qs x_some
  | _ => none
noncomputable def g__law_of (qs ds : List D) : Option (D × List D) := (b__law_of qs ds).bind finM
noncomputable def B__law_cells (x_script : D) (x_most : D) : Option (Fl (Unit) Empty (List D)) :=
  ((((consO (some (.int 1)) (consO ((consO (some x_most) (consO ((consO (some x_script) (some [])).bind dLen) (some []))).bind dMin) (some []))).bind dMax).bind dLR1).map fun d => .rt d)
noncomputable def M__law_cells (x_script : D) (x_most : D) : Option (List D) := (B__law_cells x_script x_most).bind finF
noncomputable def b__law_cells : List D → Option (Fl (Unit) Empty (List D))
  | [x_script, x_most] => B__law_cells x_script x_most
  | _ => none
noncomputable def g__law_cells (ds : List D) : Option (List D) := (b__law_cells ds).bind finF
noncomputable def B__law_uses (x_box : D) (x_letters : D) : Option (Fl (Unit) Empty (List D)) :=
  (((some x_box).bind (un3 some some some)).bind fun v1 => (((bin dPlus ((lenOk (consO (some (.int 0)) (some []))).map .list) ((lenOk (((some x_letters).bind iterS).bind (lcF (un2 some some) (fun p2 : (D × D) => (orT ((some v1.2.2).bind isB) ((bin dEq (some p2.2) (some v1.1)).bind isB))) fun p2 : (D × D) => (some p2.1)))).map .list)).bind dSSet).map fun d => .rt d))
noncomputable def M__law_uses (x_box : D) (x_letters : D) : Option (List D) := (B__law_uses x_box x_letters).bind finF
noncomputable def b__law_uses : List D → Option (Fl (Unit) Empty (List D))
  | [x_box, x_letters] => B__law_uses x_box x_letters
  | _ => none
noncomputable def g__law_uses (ds : List D) : Option (List D) := (b__law_uses ds).bind finF
noncomputable def L1__law_stays (x_box : D) (x_until : D) (l2 : List D) (p3 : D) : Option (Fl (List D) (List D) (D)) :=
  ((iteO ((bin dLt (some p3) (some x_until)).bind isB) ((((lenOk (consO (bin dPlus (some p3) (some (.int 1))) (consO (bin dPlus ((consO (some x_until) (consO (bin dPlus (some p3) (bin dIx (some x_box) (some (.int 1)))) (some []))).bind dMin) (some (.int 1))) (some [])))).map .tuple).bind (appD l2)).bind fun v7 => (some (.nx v7))) (some (.nx l2)) : Option (Fl (List D) (List D) (D))).bind (seqFl fun n6 => (some (.nx n6))))
noncomputable def B__law_stays (x_box : D) (x_letters : D) (x_until : D) : Option (Fl (Unit) Empty (D)) :=
  ((lenOk (some [])).bind fun v1 => ((((((consO (some x_box) (consO (some x_letters) (some []))).bind g__law_uses).map .list).bind iterS).bind fun its => forF (L := List D) (R := D) (fun l x => (some x).bind (L1__law_stays x_box x_until l)) its v1).bind (seqLp fun l2 => (((consO (some (.list l2)) (some [])).bind dTuple).map fun d => .rt d))))
noncomputable def M__law_stays (x_box : D) (x_letters : D) (x_until : D) : Option D := (B__law_stays x_box x_letters x_until).bind finP
noncomputable def b__law_stays : List D → Option (Fl (Unit) Empty (D))
  | [x_box, x_letters, x_until] => B__law_stays x_box x_letters x_until
  | _ => none
noncomputable def g__law_stays (ds : List D) : Option D := (b__law_stays ds).bind finP
noncomputable def L1__law_first_open (x_stays : D) (l1 : Unit) (p2 : D) : Option (Fl (Unit) (Unit) (D)) :=
  (iteO ((bin dEq ((consO (some x_stays) (consO (some p2) (some []))).bind g_there_at) ((lenOk (some [])).map .tuple)).bind isB) ((((some p2).map fun d => .rt d) : Option (Fl Empty (Unit) (D))).map castFl) (some (.nx ())))
noncomputable def B__law_first_open (x_stays : D) (x_until : D) : Option (Fl (Unit) Empty (D)) :=
  ((((some (.int 1)).bind fun x => (bin dPlus (some x_until) (some (.int 1))).bind fun y => dR2 x y).bind fun its => forF (L := Unit) (R := D) (fun l x => (some x).bind (L1__law_first_open x_stays l)) its ()).bind (seqLp fun l1 => ((some .none).map fun d => .rt d)))
noncomputable def M__law_first_open (x_stays : D) (x_until : D) : Option D := (B__law_first_open x_stays x_until).bind finP
noncomputable def b__law_first_open : List D → Option (Fl (Unit) Empty (D))
  | [x_stays, x_until] => B__law_first_open x_stays x_until
  | _ => none
noncomputable def g__law_first_open (ds : List D) : Option D := (b__law_first_open ds).bind finP
noncomputable def L1__law_letters (x_hold : D) (x_until : D) (l2 : List D × List D × D) (p3 : D) : Option (Fl (List D × List D × D) (List D × List D × D) (D × List D)) :=
  ((bindX (fun ps => ((consX (liftX fun p => (some x_hold)) (fun t => some ([], t))) ps).bind fun q => g__law_of q.2 q.1) (un3 some some some) l2.1).bind fun v4 => (((binX dPlus (liftX fun p => (some l2.2.2)) (appX dMax (consX (liftX fun p => (some (.int 1))) (consX (fun ps => ((consX (liftX fun p => ((lenOk (consO (some (.int 1)) (consO (bin dFdiv (some v4.1.2.1) (some (.int 2))) (consO (some v4.1.2.1) (consO (bin dPlus (some v4.1.2.1) (some (.int 1))) (some [])))))).map .tuple)) (fun t => some ([], t))) ps).bind fun q => g__law_of q.2 q.1) (fun t => some ([], t)))))) v4.2).bind fun v5 => ((iteO ((bin dLe (some v5.1) (some x_until)).bind isB) ((bindX' (tupX (consX (liftX fun p => (some v5.1)) (consX (iteX (isBX (binX dEq (fun ps => ((consX (liftX fun p => (some (.int 3))) (fun t => some ([], t))) ps).bind fun q => g__law_take q.2 q.1) (liftX fun p => (some (.int 0))))) (appX dInt (consX (fun ps => ((consX (liftX fun p => (some (.int 2))) (fun t => some ([], t))) ps).bind fun q => g__law_take q.2 q.1) (fun t => some ([], t)))) (liftX fun p => (some v4.1.1))) (fun t => some ([], t))))) (fun d _ => appD l2.2.1 d) v5.2).bind fun v9 => (some (.nx (v9.2, v9.1)))) (some (.nx (v5.2, l2.2.1))) : Option (Fl (List D × List D) (List D × List D × D) (D × List D))).bind (seqFl fun n8 => (some (.nx (n8.1, n8.2, v5.1)))))))
noncomputable def B__law_letters (x_pot : List D) (x_hold : D) (x_until : D) : Option (Fl (List D) Empty (D × List D)) :=
  ((two (T := Unit) (liftX fun _ => (lenOk (some []))) (liftX fun _ => (some (.int 0))) ()).bind fun v1 => ((((bindX (fun ps => ((consX (liftX fun p => (some (.int 26))) (fun t => some ([], t))) ps).bind fun q => g__law_take q.2 q.1) dR1) x_pot).bind fun q => forF (L := List D × List D × D) (R := D × List D) (fun l x => (some x).bind (L1__law_letters x_hold x_until l)) q.1 ((fun p => (p, v1.1.1, v1.1.2)) q.2)).bind (seqLp fun l2 => (((consO (some (.list l2.2.1)) (some [])).bind dTuple).map fun d => .rt (d, l2.1)))))
noncomputable def M__law_letters (x_pot : List D) (x_hold : D) (x_until : D) : Option (D × List D) := (B__law_letters x_pot x_hold x_until).bind finM
noncomputable def b__law_letters (qs : List D) : List D → Option (Fl (List D) Empty (D × List D))
  | [x_hold, x_until] => B__law_letters qs x_hold x_until
  | _ => none
noncomputable def g__law_letters (qs ds : List D) : Option (D × List D) := (b__law_letters qs ds).bind finM
noncomputable def L1__law_are_boxes_right (x_hold : D) (x_letters : D) (x_until : D) (l2 : List D) (p3 : (D × D)) : Option (Fl (List D) (List D) (D)) :=
  (((consO (some p3.2) (consO (some x_letters) (consO (some x_until) (some [])))).bind g__law_stays).bind fun v4 => (((consO (some v4) (consO (some x_until) (some []))).bind g__law_first_open).bind fun v5 => (iteO ((bin dNe (bin dEq ((consO (some v4) (some [])).bind g_ticks_used) (some x_until)) (bin dIs (some v5) (some .none))).bind isB) ((((some (.bool false)).map fun d => .rt d) : Option (Fl Empty (List D) (D))).map castFl) (iteO (orT ((bin dNe ((consO ((consO ((lenOk (consO (some p3.2) (some []))).map .tuple) (consO (some x_letters) (consO (some x_until) (some [])))).bind g_first_loss) (some [])).bind dRepr) ((consO (some v5) (some [])).bind dRepr)).bind isB) ((bin dNe (bin dEq ((consO ((lenOk (consO (some p3.2) (some []))).map .tuple) (consO (some x_letters) (consO (some x_until) (some [])))).bind g_held) ((lenOk (consO (some (.str "held")) (some []))).map .tuple)) (bin dIs (some v5) (some .none))).bind isB)) ((((some (.bool false)).map fun d => .rt d) : Option (Fl Empty (List D) (D))).map castFl) ((iteO ((bin dIsNot (some v5) (some .none)).bind isB) (((some v5).bind (appD l2)).bind fun v17 => ((((consO (some p3.2) (consO (some x_letters) (some []))).bind g__law_uses).map .list).bind fun v18 => ((bin dIx ((lenOk (((some v18).bind iterS).bind (lcF some (fun p20 : D => ((bin dLt (some p20) (some v5)).bind isB)) fun p20 : D => (some p20)))).map .list) ((some (.int 1)).bind dNeg)).bind fun v19 => (((consO (bin dPlus ((lenOk (((some v18).bind iterS).bind (lcF some (fun p22 : D => ((bin dGe (some p22) (some v5)).bind isB)) fun p22 : D => (some p22)))).map .list) ((lenOk (consO (some x_until) (some []))).map .list)) (some [])).bind dMin).bind fun v21 => (iteO (orT ((bin dNe (bin dPlus (bin dPlus (some v19) (bin dIx (some p3.2) (some (.int 1)))) (some (.int 1))) (some v5)).bind isB) ((bin dIsNot ((consO (some x_hold) (consO (some x_letters) (consO (some x_until) (consO ((lenOk (consO (some (.str "lost")) (consO (some p3.1) (consO (some v19) (consO (some v21) (some [])))))).map .tuple) (some []))))).bind g_shows_held) (some (.bool true))).bind isB)) ((((some (.bool false)).map fun d => .rt d) : Option (Fl Empty (List D) (D))).map castFl) (some (.nx v17))))))) (some (.nx l2)) : Option (Fl (List D) (List D) (D))).bind (seqFl fun n16 => (some (.nx n16))))))))
noncomputable def B__law_are_boxes_right (x_hold : D) (x_letters : D) (x_until : D) : Option (Fl (Unit) Empty (D)) :=
  ((lenOk (some [])).bind fun v1 => ((((some x_hold).bind enumD).bind fun its => forF (L := List D) (R := D) (fun l x => ((un2 some some) x).bind (L1__law_are_boxes_right x_hold x_letters x_until l)) its v1).bind (seqLp fun l2 => ((bin dEq ((consO ((consO (some x_hold) (consO (some x_letters) (consO (some x_until) (some [])))).bind g_first_loss) (some [])).bind dRepr) ((consO (iteO ((bin dNe (some (.list l2)) ((lenOk (some [])).map .list)).bind isB) ((consO (some (.list l2)) (some [])).bind dMin) (some .none)) (some [])).bind dRepr)).map fun d => .rt d))))
noncomputable def M__law_are_boxes_right (x_hold : D) (x_letters : D) (x_until : D) : Option D := (B__law_are_boxes_right x_hold x_letters x_until).bind finP
noncomputable def b__law_are_boxes_right : List D → Option (Fl (Unit) Empty (D))
  | [x_hold, x_letters, x_until] => B__law_are_boxes_right x_hold x_letters x_until
  | _ => none
noncomputable def g__law_are_boxes_right (ds : List D) : Option D := (b__law_are_boxes_right ds).bind finP
noncomputable def B__law_is_few_right (x_side : D) (x_keep : D) (x_both : D) (x_until : D) : Option (Fl (Unit) Empty (D)) :=
  (((lenOk (consO ((lenOk (consO (some x_side) (consO (some x_keep) (consO (some x_both) (some []))))).map .tuple) (some []))).map .tuple).bind fun v1 => (((consO ((lenOk (((some (.int 1)).bind fun x => (bin dPlus (bin dSub (some x_until) (some x_keep)) (some (.int 1))).bind fun y => dR2 x y).bind (lcF some (fun p3 : D => some true) fun p3 : D => ((lenOk (consO (some p3) (consO (bin dSub (bin dPlus (some p3) (some x_keep)) (some (.int 1))) (some [])))).map .tuple)))).map .list) (some [])).bind dTuple).bind fun v2 => (((consO (some v1) (consO (some x_until) (some []))).bind g_fewest_letters).bind fun v4 => (iteO ((bin dEq (some v2) ((lenOk (some [])).map .tuple)).bind isB) ((((bin dEq (some v4) ((lenOk (some [])).map .tuple)).map fun d => .rt d) : Option (Fl Empty (Empty) (D))).map castFl) ((((consO (some v2) (some [])).bind g_fewest_numbers).bind (un2 some some)).bind fun v6 => (iteO ((bin dNe ((consO (some v6.1) (some [])).bind dLen) ((consO (some v4) (some [])).bind dLen)).bind isB) ((((some (.bool false)).map fun d => .rt d) : Option (Fl Empty (Empty) (D))).map castFl) (((consO (((consO ((lenOk (((some v6.1).bind iterS).bind (lcF some (fun p9 : D => some true) fun p9 : D => ((lenOk (consO (some p9) (consO (some x_side) (some [])))).map .tuple)))).map .list) (some [])).bind dSorted).map .list) (some [])).bind dTuple).bind fun v8 => (iteO ((bin dIsNot ((consO (some v1) (consO (some x_until) (consO (some v8) (some [])))).bind g_shows_fewest_letters) (some (.bool true))).bind isB) ((((some (.bool false)).map fun d => .rt d) : Option (Fl Empty (Empty) (D))).map castFl) ((bin dIs ((consO (some v2) (consO ((lenOk (consO ((consO ((lenOk (((some v4).bind iterS).bind (lcF (un2 some some) (fun p11 : (D × D) => some true) fun p11 : (D × D) => (some p11.1)))).map .list) (some [])).bind dTuple) (consO (some v6.2) (some [])))).map .tuple) (some []))).bind g_shows_fewest_numbers) (some (.bool true))).map fun d => .rt d)))))))))
noncomputable def M__law_is_few_right (x_side : D) (x_keep : D) (x_both : D) (x_until : D) : Option D := (B__law_is_few_right x_side x_keep x_both x_until).bind finP
noncomputable def b__law_is_few_right : List D → Option (Fl (Unit) Empty (D))
  | [x_side, x_keep, x_both, x_until] => B__law_is_few_right x_side x_keep x_both x_until
  | _ => none
noncomputable def g__law_is_few_right (ds : List D) : Option D := (b__law_is_few_right ds).bind finP
noncomputable def L1__law_right  (l2 : List D × List D) (p3 : D) : Option (Fl (List D × List D) (List D × List D) (D × List D)) :=
  ((bindX' (tupX (consX (appX dInt (consX (fun ps => ((consX (liftX fun p => (some (.int 2))) (fun t => some ([], t))) ps).bind fun q => g__law_take q.2 q.1) (fun t => some ([], t)))) (consX (binX dPlus (liftX fun p => (some (.int 1))) (appX dInt (consX (fun ps => ((consX (fun ps => ((consX (liftX fun p => ((lenOk (consO (some (.int 4)) (consO (some (.int 30)) (some [])))).map .tuple)) (fun t => some ([], t))) ps).bind fun q => g__law_of q.2 q.1) (fun t => some ([], t))) ps).bind fun q => g__law_take q.2 q.1) (fun t => some ([], t))))) (consX (binX dEq (fun ps => ((consX (liftX fun p => (some (.int 2))) (fun t => some ([], t))) ps).bind fun q => g__law_take q.2 q.1) (liftX fun p => (some (.int 0)))) (fun t => some ([], t)))))) (fun d _ => appD l2.2 d) l2.1).bind fun v4 => (some (.nx (v4.2, v4.1))))
noncomputable def B__law_right (x_pot : List D) : Option (Fl (List D) Empty (D × List D)) :=
  ((two  (liftX fun p => (lenOk (some []))) (appX dInt (consX (fun ps => ((consX (fun ps => ((consX (liftX fun p => ((lenOk (consO (some (.int 12)) (consO (some (.int 101)) (some [])))).map .tuple)) (fun t => some ([], t))) ps).bind fun q => g__law_of q.2 q.1) (fun t => some ([], t))) ps).bind fun q => g__law_take q.2 q.1) (fun t => some ([], t)))) x_pot).bind fun v1 => ((((bindX (binX dPlus (liftX fun p => (some (.int 1))) (fun ps => ((consX (liftX fun p => (some (.int 6))) (fun t => some ([], t))) ps).bind fun q => g__law_take q.2 q.1)) dR1) v1.2).bind fun q => forF (L := List D × List D) (R := D × List D) (fun l x => (some x).bind (L1__law_right l)) q.1 ((fun p => (p, v1.1.1)) q.2)).bind (seqLp fun l2 => (((consO (some (.list l2.2)) (some [])).bind dTuple).bind fun v6 => (((notTX (isBX (appX g__law_are_boxes_right (consX (liftX fun p => (some v6)) (consX (fun ps => ((consX (liftX fun p => (some v6)) (consX (liftX fun p => (some v1.1.2)) (fun t => some ([], t)))) ps).bind fun q => g__law_letters q.2 q.1) (consX (liftX fun p => (some v1.1.2)) (fun t => some ([], t)))))))) l2.1).bind fun q7 => if q7.1 then (((some (.bool false)).map fun d => .rt (d, q7.2)) : Option (Fl Empty (Empty) (D × List D))).map castFl else ((bindX (fun ps => ((consX (liftX fun p => (some v6)) (fun t => some ([], t))) ps).bind fun q => g__law_of q.2 q.1) (un3 some some some) q7.2).bind fun v8 => ((andV ((consO (some v8.1.1) (consO (some v8.1.2.1) (consO (some v8.1.2.2) (consO (some v1.1.2) (some []))))).bind g__law_is_few_right) ((consO (bin dSub (some (.int 1)) (some v8.1.1)) (consO (bin dPlus (some v8.1.2.1) (some (.int 1))) (consO (notV (some v8.1.2.2)) (consO (some v1.1.2) (some []))))).bind g__law_is_few_right)).map fun d => .rt (d, v8.2))))))))
noncomputable def M__law_right (x_pot : List D) : Option (D × List D) := (B__law_right x_pot).bind finM
noncomputable def b__law_right (qs : List D) : List D → Option (Fl (List D) Empty (D × List D))
  | [] => B__law_right qs 
  | _ => none
noncomputable def g__law_right (qs ds : List D) : Option (D × List D) := (b__law_right qs ds).bind finM
noncomputable def B_law (x_script : D) : Option (Fl (Unit) Empty (D)) :=
  (((consO ((lenOk (((((consO (some x_script) (consO (some (.int 3)) (some []))).bind g__law_cells).map .list).bind iterS).bind (lcF some (fun p1 : D => some true) fun p1 : D => (((consO (some x_script) (consO (some p1) (some []))).bind g__law_pot).bind fun ps => (some []).bind fun ds => (g__law_right ps ds).map (·.1))))).map .list) (some [])).bind dAll).map fun d => .rt d)
noncomputable def M_law (x_script : D) : Option D := (B_law x_script).bind finP
noncomputable def b_law : List D → Option (Fl (Unit) Empty (D))
  | [x_script] => B_law x_script
  | _ => none
noncomputable def g_law (ds : List D) : Option D := (b_law ds).bind finP
end DL

set_option Elab.async false
set_option linter.all false
set_option maxRecDepth 100000
set_option maxHeartbeats 4000000
set_option autoImplicit false
namespace DL
open PySem PySem.Spec PyProof.Rows L2
def top (i : Nat) : Stmt := PySem.Challenge.pw_holesheldopen_k75_whole_holes_open_told.main.body.getD i (.Pass ⟨0, 0, 0, 0⟩)
/-- what the walk asks of the part that stands written behind the top -/
structure Wd (K : PySem.W.Frag) (mg : Str → Option Value) : Prop where
  d_is_int : ∃ (f : Addr) (fd : FuncData), FunD K "is_int" "is_int" (defArgs (top 8)) (defBody (top 8)) (defScope (top 8)) [] [] f fd ∧ mg "is_int" = some (.ref f)
  d_are_ints : ∃ (f : Addr) (fd : FuncData), FunD K "are_ints" "are_ints" (defArgs (top 9)) (defBody (top 9)) (defScope (top 9)) [] [] f fd ∧ mg "are_ints" = some (.ref f)
  d_is_told : ∃ (f : Addr) (fd : FuncData), FunD K "is_told" "is_told" (defArgs (top 10)) (defBody (top 10)) (defScope (top 10)) [] [] f fd ∧ mg "is_told" = some (.ref f)
  d_is_hold : ∃ (f : Addr) (fd : FuncData), FunD K "is_hold" "is_hold" (defArgs (top 19)) (defBody (top 19)) (defScope (top 19)) [] [] f fd ∧ mg "is_hold" = some (.ref f)
  d_look_at_hold : ∃ (f : Addr) (fd : FuncData), FunD K "look_at_hold" "look_at_hold" (defArgs (top 20)) (defBody (top 20)) (defScope (top 20)) [] [] f fd ∧ mg "look_at_hold" = some (.ref f)
  d_are_letters : ∃ (f : Addr) (fd : FuncData), FunD K "are_letters" "are_letters" (defArgs (top 21)) (defBody (top 21)) (defScope (top 21)) [] [] f fd ∧ mg "are_letters" = some (.ref f)
  d_look_at_letters : ∃ (f : Addr) (fd : FuncData), FunD K "look_at_letters" "look_at_letters" (defArgs (top 22)) (defBody (top 22)) (defScope (top 22)) [] [] f fd ∧ mg "look_at_letters" = some (.ref f)
  d_told_ticks : ∃ (f : Addr) (fd : FuncData), FunD K "told_ticks" "told_ticks" (defArgs (top 23)) (defBody (top 23)) (defScope (top 23)) [] [] f fd ∧ mg "told_ticks" = some (.ref f)
  d_told_loss : ∃ (f : Addr) (fd : FuncData), FunD K "told_loss" "told_loss" (defArgs (top 24)) (defBody (top 24)) (defScope (top 24)) [] [] f fd ∧ mg "told_loss" = some (.ref f)
  d_held : ∃ (f : Addr) (fd : FuncData), FunD K "held" "held" (defArgs (top 25)) (defBody (top 25)) (defScope (top 25)) [] [] f fd ∧ mg "held" = some (.ref f)
  d_shows_held : ∃ (f : Addr) (fd : FuncData), FunD K "shows_held" "shows_held" (defArgs (top 26)) (defBody (top 26)) (defScope (top 26)) [] [] f fd ∧ mg "shows_held" = some (.ref f)
  d_first_loss : ∃ (f : Addr) (fd : FuncData), FunD K "first_loss" "first_loss" (defArgs (top 27)) (defBody (top 27)) (defScope (top 27)) [] [] f fd ∧ mg "first_loss" = some (.ref f)
  d_told_keeps : ∃ (f : Addr) (fd : FuncData), FunD K "told_keeps" "told_keeps" (defArgs (top 28)) (defBody (top 28)) (defScope (top 28)) [] [] f fd ∧ mg "told_keeps" = some (.ref f)
  d_told_limit : ∃ (f : Addr) (fd : FuncData), FunD K "told_limit" "told_limit" (defArgs (top 29)) (defBody (top 29)) (defScope (top 29)) [] [] f fd ∧ mg "told_limit" = some (.ref f)
  d_is_worse : ∃ (f : Addr) (fd : FuncData), FunD K "is_worse" "is_worse" (defArgs (top 31)) (defBody (top 31)) (defScope (top 31)) [] [] f fd ∧ mg "is_worse" = some (.ref f)
  d_told_fewest : ∃ (f : Addr) (fd : FuncData), FunD K "told_fewest" "told_fewest" (defArgs (top 30)) (defBody (top 30)) (defScope (top 30)) [] [] f fd ∧ mg "told_fewest" = some (.ref f)
  d_fewest_letters : ∃ (f : Addr) (fd : FuncData), FunD K "fewest_letters" "fewest_letters" (defArgs (top 32)) (defBody (top 32)) (defScope (top 32)) [] [] f fd ∧ mg "fewest_letters" = some (.ref f)
  d_shows_fewest_letters : ∃ (f : Addr) (fd : FuncData), FunD K "shows_fewest_letters" "shows_fewest_letters" (defArgs (top 33)) (defBody (top 33)) (defScope (top 33)) [] [] f fd ∧ mg "shows_fewest_letters" = some (.ref f)
  d_look_at_spans : ∃ (f : Addr) (fd : FuncData), FunD K "look_at_spans" "look_at_spans" (defArgs (top 37)) (defBody (top 37)) (defScope (top 37)) [] [] f fd ∧ mg "look_at_spans" = some (.ref f)
  d_told_points : ∃ (f : Addr) (fd : FuncData), FunD K "told_points" "told_points" (defArgs (top 38)) (defBody (top 38)) (defScope (top 38)) [] [] f fd ∧ mg "told_points" = some (.ref f)
  d_fewest_numbers : ∃ (f : Addr) (fd : FuncData), FunD K "fewest_numbers" "fewest_numbers" (defArgs (top 39)) (defBody (top 39)) (defScope (top 39)) [] [] f fd ∧ mg "fewest_numbers" = some (.ref f)
  d_shows_fewest_numbers : ∃ (f : Addr) (fd : FuncData), FunD K "shows_fewest_numbers" "shows_fewest_numbers" (defArgs (top 40)) (defBody (top 40)) (defScope (top 40)) [] [] f fd ∧ mg "shows_fewest_numbers" = some (.ref f)
  d_are_stays : ∃ (f : Addr) (fd : FuncData), FunD K "are_stays" "are_stays" (defArgs (top 44)) (defBody (top 44)) (defScope (top 44)) [] [] f fd ∧ mg "are_stays" = some (.ref f)
  d_look_at_stays : ∃ (f : Addr) (fd : FuncData), FunD K "look_at_stays" "look_at_stays" (defArgs (top 45)) (defBody (top 45)) (defScope (top 45)) [] [] f fd ∧ mg "look_at_stays" = some (.ref f)
  d_told_there : ∃ (f : Addr) (fd : FuncData), FunD K "told_there" "told_there" (defArgs (top 46)) (defBody (top 46)) (defScope (top 46)) [] [] f fd ∧ mg "told_there" = some (.ref f)
  d_there_at : ∃ (f : Addr) (fd : FuncData), FunD K "there_at" "there_at" (defArgs (top 47)) (defBody (top 47)) (defScope (top 47)) [] [] f fd ∧ mg "there_at" = some (.ref f)
  d_ticks_used : ∃ (f : Addr) (fd : FuncData), FunD K "ticks_used" "ticks_used" (defArgs (top 48)) (defBody (top 48)) (defScope (top 48)) [] [] f fd ∧ mg "ticks_used" = some (.ref f)
  d__law_pot : ∃ (f : Addr) (fd : FuncData), FunD K "_law_pot" "_law_pot" (defArgs (top 50)) (defBody (top 50)) (defScope (top 50)) [] [] f fd ∧ mg "_law_pot" = some (.ref f)
  d__law_take : ∃ (f : Addr) (fd : FuncData), FunD K "_law_take" "_law_take" (defArgs (top 51)) (defBody (top 51)) (defScope (top 51)) [] [] f fd ∧ mg "_law_take" = some (.ref f)
  d__law_of : ∃ (f : Addr) (fd : FuncData), FunD K "_law_of" "_law_of" (defArgs (top 52)) (defBody (top 52)) (defScope (top 52)) [] [] f fd ∧ mg "_law_of" = some (.ref f)
  d__law_cells : ∃ (f : Addr) (fd : FuncData), FunD K "_law_cells" "_law_cells" (defArgs (top 53)) (defBody (top 53)) (defScope (top 53)) [] [] f fd ∧ mg "_law_cells" = some (.ref f)
  d__law_uses : ∃ (f : Addr) (fd : FuncData), FunD K "_law_uses" "_law_uses" (defArgs (top 54)) (defBody (top 54)) (defScope (top 54)) [] [] f fd ∧ mg "_law_uses" = some (.ref f)
  d__law_stays : ∃ (f : Addr) (fd : FuncData), FunD K "_law_stays" "_law_stays" (defArgs (top 55)) (defBody (top 55)) (defScope (top 55)) [] [] f fd ∧ mg "_law_stays" = some (.ref f)
  d__law_first_open : ∃ (f : Addr) (fd : FuncData), FunD K "_law_first_open" "_law_first_open" (defArgs (top 56)) (defBody (top 56)) (defScope (top 56)) [] [] f fd ∧ mg "_law_first_open" = some (.ref f)
  d__law_letters : ∃ (f : Addr) (fd : FuncData), FunD K "_law_letters" "_law_letters" (defArgs (top 57)) (defBody (top 57)) (defScope (top 57)) [] [] f fd ∧ mg "_law_letters" = some (.ref f)
  d__law_are_boxes_right : ∃ (f : Addr) (fd : FuncData), FunD K "_law_are_boxes_right" "_law_are_boxes_right" (defArgs (top 58)) (defBody (top 58)) (defScope (top 58)) [] [] f fd ∧ mg "_law_are_boxes_right" = some (.ref f)
  d__law_is_few_right : ∃ (f : Addr) (fd : FuncData), FunD K "_law_is_few_right" "_law_is_few_right" (defArgs (top 59)) (defBody (top 59)) (defScope (top 59)) [] [] f fd ∧ mg "_law_is_few_right" = some (.ref f)
  d__law_right : ∃ (f : Addr) (fd : FuncData), FunD K "_law_right" "_law_right" (defArgs (top 60)) (defBody (top 60)) (defScope (top 60)) [] [] f fd ∧ mg "_law_right" = some (.ref f)
  d_law : ∃ (f : Addr) (fd : FuncData), FunD K "law" "law" (defArgs (top 61)) (defBody (top 61)) (defScope (top 61)) [] [] f fd ∧ mg "law" = some (.ref f)
  n_abs : mg "abs" = none
  n_all : mg "all" = none
  n_any : mg "any" = none
  n_bool : mg "bool" = none
  n_enumerate : mg "enumerate" = none
  n_int : mg "int" = none
  n_isinstance : mg "isinstance" = none
  n_len : mg "len" = none
  n_list : mg "list" = none
  n_max : mg "max" = none
  n_min : mg "min" = none
  n_range : mg "range" = none
  n_repr : mg "repr" = none
  n_set : mg "set" = none
  n_sorted : mg "sorted" = none
  n_str : mg "str" = none
  n_sum : mg "sum" = none
  n_tuple : mg "tuple" = none
  n_zip : mg "zip" = none
  c_FOUR : ∃ t, mg "FOUR" = some (.int 4 t)
  c_HELD : ∃ t, mg "HELD" = some (.str "held" t)
  c_LOST : ∃ t, mg "LOST" = some (.str "lost" t)
  c_MOST_BOXES : ∃ t, mg "MOST_BOXES" = some (.int 16 t)
  c_MOST_KEEP : ∃ t, mg "MOST_KEEP" = some (.int 1000000 t)
  c_MOST_LETTERS : ∃ t, mg "MOST_LETTERS" = some (.int 4000 t)
  c_MOST_SOME : ∃ t, mg "MOST_SOME" = some (.int 200 t)
  c_MOST_STAYS : ∃ t, mg "MOST_STAYS" = some (.int 40 t)
  c_MOST_TICK : ∃ t, mg "MOST_TICK" = some (.int 1000000 t)
  c_MOST_TIME : ∃ t, mg "MOST_TIME" = some (.int 1000000000000 t)
  c_MOST_UNTIL : ∃ t, mg "MOST_UNTIL" = some (.int 2000 t)
section
variable {P : Program} {w : World} {K : PySem.W.Frag} {mg : Str → Option Value} {base : Heap}
abbrev nm_is_int : List Str := ["value", "low", "high"]
theorem nd_is_int : nm_is_int.Nodup := by decide +kernel
theorem sc_is_int : FnScope nm_is_int ["value", "low", "high"] (defScope (top 8)) := C8.fnScope_by (by decide +kernel)
theorem w_is_int (W : Wd K mg) {f : Addr} {cdv : Value} {A : Around} {outer : List Env} {s : Shared} {H : Hp} (room : Room 0 (A.deeper (envOfC "is_int" (defScope (top 8)) s.heap.objs.size f cdv))) (gd : A.guards = some []) (x_value : D) (x_low : D) (x_high : D) :
    DB (BX P w K mg base nm_is_int "is_int" (defScope (top 8)) f cdv A outer s H) ⟨H, []⟩ (fun _ : Unit => [.any, .any, .any]) GE (RKp K H) [.imm x_value, .imm x_low, .imm x_high] (defBody (top 8)) (B_is_int x_value x_low x_high) := by
  unfold B_is_int
  exact db_ret (de_and (de_isi W.n_isinstance W.n_int (DE.w (de_var 0))) (de_and (de_not (de_isi W.n_isinstance W.n_bool (DE.w (de_var 0)))) (de_one (de_chain (od_le (u64 room)) (od_le (u64 room)) (DE.w (de_var 1)) (DE.w (de_var 0)) (DE.w (de_var 2)))))) rkp
theorem F_is_int (W : Wd K mg) : CalG P w K mg base 1 "is_int" (spP K g_is_int) :=
  calP W.d_is_int sc_is_int (fun _ _ _ _ _ _ us hl => match us, hl with | [_, _, _], _ => rfl) (by decide) b_is_int (fun ds o h => by unfold b_is_int at h; split at h <;> first | rfl | cases h)
    fun f cdv A outer s H ds hl room gd => match ds, hl with | [x_value, x_low, x_high], _ => w_is_int W room gd x_value x_low x_high
abbrev nm_are_ints : List Str := ["value", "low", "high", "one"]
theorem nd_are_ints : nm_are_ints.Nodup := by decide +kernel
theorem sc_are_ints : FnScope nm_are_ints ["value", "low", "high"] (defScope (top 9)) := C8.fnScope_by (by decide +kernel)
theorem w_are_ints (W : Wd K mg) {f : Addr} {cdv : Value} {A : Around} {outer : List Env} {s : Shared} {H : Hp} (room : Room 1 (A.deeper (envOfC "are_ints" (defScope (top 9)) s.heap.objs.size f cdv))) (gd : A.guards = some []) (x_value : D) (x_low : D) (x_high : D) :
    DB (BX P w K mg base nm_are_ints "are_ints" (defScope (top 9)) f cdv A outer s H) ⟨H, []⟩ (fun _ : Unit => [.any, .any, .any, .any]) GE (RKp K H) [.imm x_value, .imm x_low, .imm x_high, .any] (defBody (top 9)) (B_are_ints x_value x_low x_high) := by
  unfold B_are_ints
  exact db_ret (de_and (de_isi W.n_isinstance W.n_tuple (DE.w (de_var 0))) (de_one (de_callB (cd_all rfl) W.n_all (daw_cons (DE.w (DF.e (df_lc [("one", 3)] rfl nd_are_ints (DI.w (di_seq (de_var 0))) (fun _ _ _ _ _ => (dg_name 3 nd_are_ints)) (fun _ _ _ _ _ p1 => dts_nil) (fun _ _ _ _ _ p1 => (de_call (F_is_int W) (room.mono (by decide : 1 ≤ 1)) gd (da_cons (de_var 3) (da_cons (de_var 1) (da_cons (de_var 2) da_nil))) (hs := by exact ⟨rfl, rfl, rfl, trivial⟩)))))) daw_nil) (hs := by exact ⟨rfl, trivial⟩)))) rkp
theorem F_are_ints (W : Wd K mg) : CalG P w K mg base 2 "are_ints" (spP K g_are_ints) :=
  calP W.d_are_ints sc_are_ints (fun _ _ _ _ _ _ us hl => match us, hl with | [_, _, _], _ => rfl) (by decide) b_are_ints (fun ds o h => by unfold b_are_ints at h; split at h <;> first | rfl | cases h)
    fun f cdv A outer s H ds hl room gd => match ds, hl with | [x_value, x_low, x_high], _ => w_are_ints W room gd x_value x_low x_high
abbrev nm_is_told : List Str := ["value", "sizes"]
theorem nd_is_told : nm_is_told.Nodup := by decide +kernel
theorem sc_is_told : FnScope nm_is_told ["value", "sizes"] (defScope (top 10)) := C8.fnScope_by (by decide +kernel)
theorem w_is_told (W : Wd K mg) {f : Addr} {cdv : Value} {A : Around} {outer : List Env} {s : Shared} {H : Hp} (room : Room 0 (A.deeper (envOfC "is_told" (defScope (top 10)) s.heap.objs.size f cdv))) (gd : A.guards = some []) (x_value : D) (x_sizes : D) :
    DB (BX P w K mg base nm_is_told "is_told" (defScope (top 10)) f cdv A outer s H) ⟨H, []⟩ (fun _ : Unit => [.any, .any]) GE (RKp K H) [.imm x_value, .imm x_sizes] (defBody (top 10)) (B_is_told x_value x_sizes) := by
  unfold B_is_told
  exact db_ret (de_and (de_isi W.n_isinstance W.n_tuple (DE.w (de_var 0))) (de_and (de_cmp (od_in (u65 room)) (DE.w (de_callB cd_len W.n_len (daw_cons (DE.w (de_var 0)) daw_nil) (hs := by exact ⟨rfl, trivial⟩))) (DE.w (de_var 1))) (de_one (de_isi W.n_isinstance W.n_str (DE.w (de_ix (DE.w (de_var 0)) (DE.w de_int))))))) rkp
theorem F_is_told (W : Wd K mg) : CalG P w K mg base 1 "is_told" (spP K g_is_told) :=
  calP W.d_is_told sc_is_told (fun _ _ _ _ _ _ us hl => match us, hl with | [_, _], _ => rfl) (by decide) b_is_told (fun ds o h => by unfold b_is_told at h; split at h <;> first | rfl | cases h)
    fun f cdv A outer s H ds hl room gd => match ds, hl with | [x_value, x_sizes], _ => w_is_told W room gd x_value x_sizes
abbrev nm_is_hold : List Str := ["value", "box"]
theorem nd_is_hold : nm_is_hold.Nodup := by decide +kernel
theorem sc_is_hold : FnScope nm_is_hold ["value"] (defScope (top 19)) := C8.fnScope_by (by decide +kernel)
theorem w_is_hold (W : Wd K mg) {f : Addr} {cdv : Value} {A : Around} {outer : List Env} {s : Shared} {H : Hp} (room : Room 1 (A.deeper (envOfC "is_hold" (defScope (top 19)) s.heap.objs.size f cdv))) (gd : A.guards = some []) (x_value : D) :
    DB (BX P w K mg base nm_is_hold "is_hold" (defScope (top 19)) f cdv A outer s H) ⟨H, []⟩ (fun _ : Unit => [.any, .any]) GE (RKp K H) [.imm x_value, .any] (defBody (top 19)) (B_is_hold x_value) := by
  unfold B_is_hold
  refine db_ifr (DTw.t (dw_or (dt_not (dt_val (de_isi W.n_isinstance W.n_tuple (DE.w (de_var 0))))) (dw_or1 (dt_not (dt_chain (od_le (u64 room)) (od_le (u64 room)) (DE.w de_int) (DE.w (de_callB cd_len W.n_len (daw_cons (DE.w (de_var 0)) daw_nil) (hs := by exact ⟨rfl, trivial⟩))) (DE.w (de_gint W.c_MOST_BOXES))))))) ?_ ?_
  · exact db_ret de_bool rkp
  refine db_for (P := D) (fun l2 : Unit => [.imm x_value, .any]) () rfl rfl (di_seq (de_var 0)) ⟨.inl rfl, .inr rfl, trivial⟩ (fun l2 => (dg_name 1 nd_is_hold)) (fun l2 p3 => ?_) fun l2 => ?_
  · unfold L1_is_hold
    refine db_ifr (DTw.t (dw_or (dt_not (dt_val (de_isi W.n_isinstance W.n_tuple (DE.w (de_var 1))))) (dw_or (dt_cmp (od_ne (u64 room)) (DE.w (de_callB cd_len W.n_len (daw_cons (DE.w (de_var 1)) daw_nil) (hs := by exact ⟨rfl, trivial⟩))) (DE.w (de_plus (DE.w de_int) (DE.w de_int)))) (dw_or1 (dt_not (dt_val (de_isi W.n_isinstance W.n_bool (DE.w (de_ix (DE.w (de_var 1)) (DE.w de_int)))))))))) ?_ ?_
    · exact db_ret de_bool rkp
    refine db_ifr (DTw.t (dw_or (dt_not (dt_val (de_call (F_is_int W) (room.mono (by decide : 1 ≤ 1)) gd (da_cons (de_ix (DE.w (de_var 1)) (DE.w de_int)) (da_cons de_int (da_cons de_int da_nil))) (hs := by exact ⟨rfl, rfl, rfl, trivial⟩)))) (dw_or1 (dt_not (dt_val (de_call (F_is_int W) (room.mono (by decide : 1 ≤ 1)) gd (da_cons (de_ix (DE.w (de_var 1)) (DE.w de_int)) (da_cons de_int (da_cons (de_gint W.c_MOST_KEEP) da_nil))) (hs := by exact ⟨rfl, rfl, rfl, trivial⟩))))))) ?_ ?_
    · exact db_ret de_bool rkp
    exact db_nil () ⟨.inl rfl, .inr rfl, trivial⟩
  exact db_ret de_bool rkp
theorem F_is_hold (W : Wd K mg) : CalG P w K mg base 2 "is_hold" (spP K g_is_hold) :=
  calP W.d_is_hold sc_is_hold (fun _ _ _ _ _ _ us hl => match us, hl with | [_], _ => rfl) (by decide) b_is_hold (fun ds o h => by unfold b_is_hold at h; split at h <;> first | rfl | cases h)
    fun f cdv A outer s H ds hl room gd => match ds, hl with | [x_value], _ => w_is_hold W room gd x_value
abbrev nm_look_at_hold : List Str := ["hold", "until"]
theorem nd_look_at_hold : nm_look_at_hold.Nodup := by decide +kernel
theorem sc_look_at_hold : FnScope nm_look_at_hold ["hold", "until"] (defScope (top 20)) := C8.fnScope_by (by decide +kernel)
theorem w_look_at_hold (W : Wd K mg) {f : Addr} {cdv : Value} {A : Around} {outer : List Env} {s : Shared} {H : Hp} (room : Room 2 (A.deeper (envOfC "look_at_hold" (defScope (top 20)) s.heap.objs.size f cdv))) (gd : A.guards = some []) (x_hold : D) (x_until : D) :
    DB (BX P w K mg base nm_look_at_hold "look_at_hold" (defScope (top 20)) f cdv A outer s H) ⟨H, []⟩ (fun _ : Unit => [.any, .any]) GE (RKp K H) [.imm x_hold, .imm x_until] (defBody (top 20)) (B_look_at_hold x_hold x_until) := by
  unfold B_look_at_hold
  refine db_ifr (dt_not (dt_val (de_call (F_is_hold W) (room.mono (by decide : 2 ≤ 2)) gd (da_cons (de_var 0) da_nil) (hs := by exact ⟨rfl, trivial⟩)))) ?_ ?_
  · exact db_none
  refine db_ifr (dt_not (dt_val (de_call (F_is_int W) (room.mono (by decide : 1 ≤ 2)) gd (da_cons (de_var 1) (da_cons de_int (da_cons (de_gint W.c_MOST_UNTIL) da_nil))) (hs := by exact ⟨rfl, rfl, rfl, trivial⟩)))) ?_ ?_
  · exact db_none
  exact db_nil () ⟨.inr rfl, .inr rfl, trivial⟩
theorem F_look_at_hold (W : Wd K mg) : CalG P w K mg base 3 "look_at_hold" (spP K g_look_at_hold) :=
  calP W.d_look_at_hold sc_look_at_hold (fun _ _ _ _ _ _ us hl => match us, hl with | [_, _], _ => rfl) (by decide) b_look_at_hold (fun ds o h => by unfold b_look_at_hold at h; split at h <;> first | rfl | cases h)
    fun f cdv A outer s H ds hl room gd => match ds, hl with | [x_hold, x_until], _ => w_look_at_hold W room gd x_hold x_until
abbrev nm_are_letters : List Str := ["value", "until", "letter", "one", "other"]
theorem nd_are_letters : nm_are_letters.Nodup := by decide +kernel
theorem sc_are_letters : FnScope nm_are_letters ["value", "until"] (defScope (top 21)) := C8.fnScope_by (by decide +kernel)
theorem w_are_letters (W : Wd K mg) {f : Addr} {cdv : Value} {A : Around} {outer : List Env} {s : Shared} {H : Hp} (room : Room 1 (A.deeper (envOfC "are_letters" (defScope (top 21)) s.heap.objs.size f cdv))) (gd : A.guards = some []) (x_value : D) (x_until : D) :
    DB (BX P w K mg base nm_are_letters "are_letters" (defScope (top 21)) f cdv A outer s H) ⟨H, []⟩ (fun _ : Unit => [.any, .any, .any, .any, .any]) GE (RKp K H) [.imm x_value, .imm x_until, .any, .any, .any] (defBody (top 21)) (B_are_letters x_value x_until) := by
  unfold B_are_letters
  refine db_ifr (DTw.t (dw_or (dt_not (dt_val (de_isi W.n_isinstance W.n_tuple (DE.w (de_var 0))))) (dw_or1 (dt_cmp (od_gt (u64 room)) (DE.w (de_callB cd_len W.n_len (daw_cons (DE.w (de_var 0)) daw_nil) (hs := by exact ⟨rfl, trivial⟩))) (DE.w (de_gint W.c_MOST_LETTERS)))))) ?_ ?_
  · exact db_ret de_bool rkp
  refine db_for (P := D) (fun l2 : Unit => [.imm x_value, .imm x_until, .any, .any, .any]) () rfl rfl (di_seq (de_var 0)) ⟨.inl rfl, .inl rfl, .inr rfl, .inr rfl, .inr rfl, trivial⟩ (fun l2 => (dg_name 2 nd_are_letters)) (fun l2 p3 => ?_) fun l2 => ?_
  · unfold L1_are_letters
    refine db_ifr (DTw.t (dw_or (dt_not (dt_val (de_isi W.n_isinstance W.n_tuple (DE.w (de_var 2))))) (dw_or1 (dt_cmp (od_ne (u64 room)) (DE.w (de_callB cd_len W.n_len (daw_cons (DE.w (de_var 2)) daw_nil) (hs := by exact ⟨rfl, trivial⟩))) (DE.w de_int))))) ?_ ?_
    · exact db_ret de_bool rkp
    refine db_ifr (DTw.t (dw_or (dt_not (dt_val (de_call (F_is_int W) (room.mono (by decide : 1 ≤ 1)) gd (da_cons (de_ix (DE.w (de_var 2)) (DE.w de_int)) (da_cons de_int (da_cons (de_var 1) da_nil))) (hs := by exact ⟨rfl, rfl, rfl, trivial⟩)))) (dw_or1 (dt_not (dt_val (de_call (F_is_int W) (room.mono (by decide : 1 ≤ 1)) gd (da_cons (de_ix (DE.w (de_var 2)) (DE.w de_int)) (da_cons de_int (da_cons de_int da_nil))) (hs := by exact ⟨rfl, rfl, rfl, trivial⟩))))))) ?_ ?_
    · exact db_ret de_bool rkp
    exact db_nil () ⟨.inl rfl, .inl rfl, .inr rfl, .inr rfl, .inr rfl, trivial⟩
  exact db_ret (de_callB (cd_all rfl) W.n_all (daw_cons (DE.w (DF.e (df_lc [("one", 3), ("other", 4)] rfl nd_are_letters (DI.w (di_zip2 W.n_zip (da_cons (de_var 0) (da_cons (de_sl (de_var 0) (.yes de_int) .no) da_nil)))) (fun _ _ _ _ _ => (dg_tup2 rfl (dg_name 3 nd_are_letters) fun _ => (dg_name 4 nd_are_letters))) (fun _ _ _ _ _ p8 => dts_nil) (fun _ _ _ _ _ p8 => (de_cmp (od_lt (u64 room)) (DE.w (de_var 3)) (DE.w (de_var 4))))))) daw_nil) (hs := by exact ⟨rfl, trivial⟩)) rkp
theorem F_are_letters (W : Wd K mg) : CalG P w K mg base 2 "are_letters" (spP K g_are_letters) :=
  calP W.d_are_letters sc_are_letters (fun _ _ _ _ _ _ us hl => match us, hl with | [_, _], _ => rfl) (by decide) b_are_letters (fun ds o h => by unfold b_are_letters at h; split at h <;> first | rfl | cases h)
    fun f cdv A outer s H ds hl room gd => match ds, hl with | [x_value, x_until], _ => w_are_letters W room gd x_value x_until
abbrev nm_look_at_letters : List Str := ["hold", "letters", "until"]
theorem nd_look_at_letters : nm_look_at_letters.Nodup := by decide +kernel
theorem sc_look_at_letters : FnScope nm_look_at_letters ["hold", "letters", "until"] (defScope (top 22)) := C8.fnScope_by (by decide +kernel)
theorem w_look_at_letters (W : Wd K mg) {f : Addr} {cdv : Value} {A : Around} {outer : List Env} {s : Shared} {H : Hp} (room : Room 3 (A.deeper (envOfC "look_at_letters" (defScope (top 22)) s.heap.objs.size f cdv))) (gd : A.guards = some []) (x_hold : D) (x_letters : D) (x_until : D) :
    DB (BX P w K mg base nm_look_at_letters "look_at_letters" (defScope (top 22)) f cdv A outer s H) ⟨H, []⟩ (fun _ : Unit => [.any, .any, .any]) GE (RKp K H) [.imm x_hold, .imm x_letters, .imm x_until] (defBody (top 22)) (B_look_at_letters x_hold x_letters x_until) := by
  unfold B_look_at_letters
  refine db_expr (de_call (F_look_at_hold W) (room.mono (by decide : 3 ≤ 3)) gd (da_cons (de_var 0) (da_cons (de_var 2) da_nil)) (hs := by exact ⟨rfl, rfl, trivial⟩)) ?_
  refine db_ifr (dt_not (dt_val (de_call (F_are_letters W) (room.mono (by decide : 2 ≤ 3)) gd (da_cons (de_var 1) (da_cons (de_var 2) da_nil)) (hs := by exact ⟨rfl, rfl, trivial⟩)))) ?_ ?_
  · exact db_none
  exact db_nil () ⟨.inr rfl, .inr rfl, .inr rfl, trivial⟩
theorem F_look_at_letters (W : Wd K mg) : CalG P w K mg base 4 "look_at_letters" (spP K g_look_at_letters) :=
  calP W.d_look_at_letters sc_look_at_letters (fun _ _ _ _ _ _ us hl => match us, hl with | [_, _, _], _ => rfl) (by decide) b_look_at_letters (fun ds o h => by unfold b_look_at_letters at h; split at h <;> first | rfl | cases h)
    fun f cdv A outer s H ds hl room gd => match ds, hl with | [x_hold, x_letters, x_until], _ => w_look_at_letters W room gd x_hold x_letters x_until
abbrev nm_told_ticks : List Str := ["box", "letters", "side", "keep", "both", "tick", "its"]
theorem nd_told_ticks : nm_told_ticks.Nodup := by decide +kernel
theorem sc_told_ticks : FnScope nm_told_ticks ["box", "letters"] (defScope (top 23)) := C8.fnScope_by (by decide +kernel)
theorem w_told_ticks (W : Wd K mg) {f : Addr} {cdv : Value} {A : Around} {outer : List Env} {s : Shared} {H : Hp} (room : Room 0 (A.deeper (envOfC "told_ticks" (defScope (top 23)) s.heap.objs.size f cdv))) (gd : A.guards = some []) (x_box : D) (x_letters : D) :
    DB (BX P w K mg base nm_told_ticks "told_ticks" (defScope (top 23)) f cdv A outer s H) ⟨H, []⟩ (fun _ : Unit => [.any, .any, .any, .any, .any, .any, .any]) GE (RKf K H) [.imm x_box, .imm x_letters, .any, .any, .any, .any, .any] (defBody (top 23)) (B_told_ticks x_box x_letters) := by
  unfold B_told_ticks
  refine db_unp (de_var 0) (dg_tup3 rfl (dg_name 2 nd_told_ticks) (fun _ => (dg_name 3 nd_told_ticks)) fun _ _ => (dg_name 4 nd_told_ticks)) fun v1 => ?_
  exact db_retF (df_lstS (das_cons de_int (das_star (DE.w (DF.e (df_lc [("tick", 5), ("its", 6)] rfl nd_told_ticks (DI.w (di_seq (de_var 1))) (fun _ _ _ _ _ => (dg_tup2 rfl (dg_name 5 nd_told_ticks) fun _ => (dg_name 6 nd_told_ticks))) (fun _ _ _ _ _ p2 => dts_one (DTw.t (dw_or (dt_val (de_var 4)) (dw_or1 (dt_cmp (od_eq (u64 room)) (DE.w (de_var 6)) (DE.w (de_var 2))))))) (fun _ _ _ _ _ p2 => (de_var 5))))) das_nil))) rkf
theorem F_told_ticks (W : Wd K mg) : CalG P w K mg base 1 "told_ticks" (spF K g_told_ticks) :=
  calF W.d_told_ticks sc_told_ticks (fun _ _ _ _ _ _ us hl => match us, hl with | [_, _], _ => rfl) (by decide) b_told_ticks (fun ds o h => by unfold b_told_ticks at h; split at h <;> first | rfl | cases h)
    fun f cdv A outer s H ds hl room gd => match ds, hl with | [x_box, x_letters], _ => w_told_ticks W room gd x_box x_letters
abbrev nm_told_loss : List Str := ["hold", "letters", "until", "found", "at", "box", "ticks", "last", "later"]
theorem nd_told_loss : nm_told_loss.Nodup := by decide +kernel
theorem sc_told_loss : FnScope nm_told_loss ["hold", "letters", "until"] (defScope (top 24)) := C8.fnScope_by (by decide +kernel)
theorem w_told_loss (W : Wd K mg) {f : Addr} {cdv : Value} {A : Around} {outer : List Env} {s : Shared} {H : Hp} (room : Room 1 (A.deeper (envOfC "told_loss" (defScope (top 24)) s.heap.objs.size f cdv))) (gd : A.guards = some []) (x_hold : D) (x_letters : D) (x_until : D) :
    DB (BX P w K mg base nm_told_loss "told_loss" (defScope (top 24)) f cdv A outer s H) ⟨H, []⟩ (fun _ : Unit => [.any, .any, .any, .any, .any, .any, .any, .any, .any]) GE (RKp K H) [.imm x_hold, .imm x_letters, .imm x_until, .any, .any, .any, .any, .any, .any] (defBody (top 24)) (B_told_loss x_hold x_letters x_until) := by
  unfold B_told_loss
  refine db_asgF 3 nd_told_loss (df_lst da_nil (hs := by exact trivial)) fun v1 => ?_
  refine db_for (P := (D × D)) (fun l2 : List D => [.imm x_hold, .imm x_letters, .imm x_until, .own l2, .any, .any, .any, .any, .any]) v1 rfl rfl (di_enum W.n_enumerate (de_var 0)) ⟨.inl rfl, .inl rfl, .inl rfl, .inl rfl, .inr rfl, .inr rfl, .inr rfl, .inr rfl, .inr rfl, trivial⟩ (fun l2 => (dg_tup2 rfl (dg_name 4 nd_told_loss) fun _ => (dg_name 5 nd_told_loss))) (fun l2 p3 => ?_) fun l2 => ?_
  · unfold L2_told_loss
    refine db_asg 6 nd_told_loss (DF.e (df_lstS (das_star (DE.w (DF.e (df_call (F_told_ticks W) (room.mono (by decide : 1 ≤ 1)) gd (da_cons (de_var 5) (da_cons (de_var 1) da_nil)) (hs := by exact ⟨rfl, rfl, trivial⟩)))) (das_cons (de_var 2) das_nil)))) fun v11 => ?_
    refine db_for (P := (D × D)) (fun l12 : List D => [.imm x_hold, .imm x_letters, .imm x_until, .own l12, .imm p3.1, .imm p3.2, .imm v11, .any, .any]) l2 rfl rfl (di_zip2 W.n_zip (da_cons (de_var 6) (da_cons (de_sl (de_var 6) (.yes de_int) .no) da_nil))) ⟨.inl rfl, .inl rfl, .inl rfl, .inl rfl, .inl rfl, .inl rfl, .inl rfl, .inr rfl, .inr rfl, trivial⟩ (fun l12 => (dg_tup2 rfl (dg_name 7 nd_told_loss) fun _ => (dg_name 8 nd_told_loss))) (fun l12 p13 => ?_) fun l12 => ?_
    · unfold L1_told_loss
      refine db_ifr (dt_cmp (od_gt (u64 room)) (DE.w (de_op od_sub (DE.w (de_var 8)) (DE.w (de_var 7)))) (DE.w (de_ix (DE.w (de_var 5)) (DE.w de_int)))) ?_ ?_
      · refine db_append 3 rfl (de_tup (da_cons (de_plus (DE.w (de_plus (DE.w (de_var 7)) (DE.w (de_ix (DE.w (de_var 5)) (DE.w de_int))))) (DE.w de_int)) (da_cons (de_var 4) (da_cons (de_var 7) (da_cons (de_var 8) da_nil)))) (hs := by exact ⟨rfl, rfl, rfl, rfl, trivial⟩)) fun v17 => ?_
        exact db_break v17 ⟨.inl rfl, .inl rfl, .inl rfl, .inl rfl, .inl rfl, .inl rfl, .inl rfl, .inr rfl, .inr rfl, trivial⟩
      exact db_nil l12 ⟨.inl rfl, .inl rfl, .inl rfl, .inl rfl, .inl rfl, .inl rfl, .inl rfl, .inr rfl, .inr rfl, trivial⟩
    exact db_nil l12 ⟨.inl rfl, .inl rfl, .inl rfl, .inl rfl, .inr rfl, .inr rfl, .inr rfl, .inr rfl, .inr rfl, trivial⟩
  exact db_ret (de_ite (dt_cmp (od_ne (u64 room)) (dw_own 3) (DE.w (DF.e (df_lst da_nil (hs := by exact trivial))))) (de_callB (cd_min rfl (u100 room)) W.n_min (daw_cons (dw_own 3) daw_nil) (hs := by exact ⟨rfl, trivial⟩)) de_none) rkp
theorem F_told_loss (W : Wd K mg) : CalG P w K mg base 2 "told_loss" (spP K g_told_loss) :=
  calP W.d_told_loss sc_told_loss (fun _ _ _ _ _ _ us hl => match us, hl with | [_, _, _], _ => rfl) (by decide) b_told_loss (fun ds o h => by unfold b_told_loss at h; split at h <;> first | rfl | cases h)
    fun f cdv A outer s H ds hl room gd => match ds, hl with | [x_hold, x_letters, x_until], _ => w_told_loss W room gd x_hold x_letters x_until
abbrev nm_held : List Str := ["hold", "letters", "until", "told"]
theorem nd_held : nm_held.Nodup := by decide +kernel
theorem sc_held : FnScope nm_held ["hold", "letters", "until"] (defScope (top 25)) := C8.fnScope_by (by decide +kernel)
theorem w_held (W : Wd K mg) {f : Addr} {cdv : Value} {A : Around} {outer : List Env} {s : Shared} {H : Hp} (room : Room 4 (A.deeper (envOfC "held" (defScope (top 25)) s.heap.objs.size f cdv))) (gd : A.guards = some []) (x_hold : D) (x_letters : D) (x_until : D) :
    DB (BX P w K mg base nm_held "held" (defScope (top 25)) f cdv A outer s H) ⟨H, []⟩ (fun _ : Unit => [.any, .any, .any, .any]) GE (RKp K H) [.imm x_hold, .imm x_letters, .imm x_until, .any] (defBody (top 25)) (B_held x_hold x_letters x_until) := by
  unfold B_held
  refine db_expr (de_call (F_look_at_letters W) (room.mono (by decide : 4 ≤ 4)) gd (da_cons (de_var 0) (da_cons (de_var 1) (da_cons (de_var 2) da_nil))) (hs := by exact ⟨rfl, rfl, rfl, trivial⟩)) ?_
  refine db_asg 3 nd_held (de_call (F_told_loss W) (room.mono (by decide : 2 ≤ 4)) gd (da_cons (de_var 0) (da_cons (de_var 1) (da_cons (de_var 2) da_nil))) (hs := by exact ⟨rfl, rfl, rfl, trivial⟩)) fun v1 => ?_
  exact db_ret (de_ite (dt_cmp od_is (DE.w (de_var 3)) (DE.w de_none)) (de_tup (da_cons (de_gstr W.c_HELD) da_nil) (hs := by exact ⟨rfl, trivial⟩)) (de_tupS (das_cons (de_gstr W.c_LOST) (das_star (DE.w (de_sl (de_var 3) (.yes de_int) .no)) das_nil)))) rkp
theorem F_held (W : Wd K mg) : CalG P w K mg base 5 "held" (spP K g_held) :=
  calP W.d_held sc_held (fun _ _ _ _ _ _ us hl => match us, hl with | [_, _, _], _ => rfl) (by decide) b_held (fun ds o h => by unfold b_held at h; split at h <;> first | rfl | cases h)
    fun f cdv A outer s H ds hl room gd => match ds, hl with | [x_hold, x_letters, x_until], _ => w_held W room gd x_hold x_letters x_until
abbrev nm_shows_held : List Str := ["hold", "letters", "until", "value", "at", "last", "later", "ticks"]
theorem nd_shows_held : nm_shows_held.Nodup := by decide +kernel
theorem sc_shows_held : FnScope nm_shows_held ["hold", "letters", "until", "value"] (defScope (top 26)) := C8.fnScope_by (by decide +kernel)
theorem w_shows_held (W : Wd K mg) {f : Addr} {cdv : Value} {A : Around} {outer : List Env} {s : Shared} {H : Hp} (room : Room 4 (A.deeper (envOfC "shows_held" (defScope (top 26)) s.heap.objs.size f cdv))) (gd : A.guards = some []) (x_hold : D) (x_letters : D) (x_until : D) (x_value : D) :
    DB (BX P w K mg base nm_shows_held "shows_held" (defScope (top 26)) f cdv A outer s H) ⟨H, []⟩ (fun _ : Unit => [.any, .any, .any, .any, .any, .any, .any, .any]) GE (RKp K H) [.imm x_hold, .imm x_letters, .imm x_until, .imm x_value, .any, .any, .any, .any] (defBody (top 26)) (B_shows_held x_hold x_letters x_until x_value) := by
  unfold B_shows_held
  refine db_expr (de_call (F_look_at_letters W) (room.mono (by decide : 4 ≤ 4)) gd (da_cons (de_var 0) (da_cons (de_var 1) (da_cons (de_var 2) da_nil))) (hs := by exact ⟨rfl, rfl, rfl, trivial⟩)) ?_
  refine db_ifr (dt_not (dt_val (de_call (F_is_told W) (room.mono (by decide : 1 ≤ 4)) gd (da_cons (de_var 3) (da_cons (de_tup (da_cons de_int (da_cons (de_gint W.c_FOUR) da_nil)) (hs := by exact ⟨rfl, rfl, trivial⟩)) da_nil)) (hs := by exact ⟨rfl, rfl, trivial⟩)))) ?_ ?_
  · exact db_ret de_bool rkp
  refine db_ifr (dt_cmp (od_eq (u64 room)) (DE.w (de_callB cd_len W.n_len (daw_cons (DE.w (de_var 3)) daw_nil) (hs := by exact ⟨rfl, trivial⟩))) (DE.w de_int)) ?_ ?_
  · exact db_ret (de_and (de_cmp (od_eq (u64 room)) (DE.w (de_ix (DE.w (de_var 3)) (DE.w de_int))) (DE.w (de_gstr W.c_HELD))) (de_one (de_cmp od_is (DE.w (de_call (F_told_loss W) (room.mono (by decide : 2 ≤ 4)) gd (da_cons (de_var 0) (da_cons (de_var 1) (da_cons (de_var 2) da_nil))) (hs := by exact ⟨rfl, rfl, rfl, trivial⟩))) (DE.w de_none)))) rkp
  refine db_unp (de_sl (de_var 3) (.yes de_int) .no) (dg_tup3 rfl (dg_name 4 nd_shows_held) (fun _ => (dg_name 5 nd_shows_held)) fun _ _ => (dg_name 6 nd_shows_held)) fun v3 => ?_
  refine db_ifr (DTw.t (dw_or (dt_cmp (od_ne (u64 room)) (DE.w (de_ix (DE.w (de_var 3)) (DE.w de_int))) (DE.w (de_gstr W.c_LOST))) (dw_or1 (dt_not (dt_val (de_call (F_is_int W) (room.mono (by decide : 1 ≤ 4)) gd (da_cons (de_var 4) (da_cons de_int (da_cons (de_op od_sub (DE.w (de_callB cd_len W.n_len (daw_cons (DE.w (de_var 0)) daw_nil) (hs := by exact ⟨rfl, trivial⟩))) (DE.w de_int)) da_nil))) (hs := by exact ⟨rfl, rfl, rfl, trivial⟩))))))) ?_ ?_
  · exact db_ret de_bool rkp
  refine db_ifr (DTw.t (dw_or (dt_not (dt_val (de_call (F_is_int W) (room.mono (by decide : 1 ≤ 4)) gd (da_cons (de_var 5) (da_cons de_int (da_cons (de_var 2) da_nil))) (hs := by exact ⟨rfl, rfl, rfl, trivial⟩)))) (dw_or1 (dt_not (dt_val (de_call (F_is_int W) (room.mono (by decide : 1 ≤ 4)) gd (da_cons (de_var 6) (da_cons (de_var 5) (da_cons (de_var 2) da_nil))) (hs := by exact ⟨rfl, rfl, rfl, trivial⟩))))))) ?_ ?_
  · exact db_ret de_bool rkp
  refine db_asg 7 nd_shows_held (DF.e (df_lstS (das_star (DE.w (DF.e (df_call (F_told_ticks W) (room.mono (by decide : 1 ≤ 4)) gd (da_cons (de_ix (DE.w (de_var 0)) (DE.w (de_var 4))) (da_cons (de_var 1) da_nil)) (hs := by exact ⟨rfl, rfl, trivial⟩)))) (das_cons (de_var 2) das_nil)))) fun v6 => ?_
  exact db_ret (de_and (de_cmp (od_gt (u64 room)) (DE.w (de_op od_sub (DE.w (de_var 6)) (DE.w (de_var 5)))) (DE.w (de_ix (DE.w (de_ix (DE.w (de_var 0)) (DE.w (de_var 4)))) (DE.w de_int)))) (de_one (de_cmp (od_in (u65 room)) (DE.w (de_tup (da_cons (de_var 5) (da_cons (de_var 6) da_nil)) (hs := by exact ⟨rfl, rfl, trivial⟩))) (DE.w (DF.e (df_lzip rfl W.n_list W.n_zip (daw_cons (DE.w (de_var 7)) (daw_cons (DE.w (de_sl (de_var 7) (.yes de_int) .no)) daw_nil)))))))) rkp
theorem F_shows_held (W : Wd K mg) : CalG P w K mg base 5 "shows_held" (spP K g_shows_held) :=
  calP W.d_shows_held sc_shows_held (fun _ _ _ _ _ _ us hl => match us, hl with | [_, _, _, _], _ => rfl) (by decide) b_shows_held (fun ds o h => by unfold b_shows_held at h; split at h <;> first | rfl | cases h)
    fun f cdv A outer s H ds hl room gd => match ds, hl with | [x_hold, x_letters, x_until, x_value], _ => w_shows_held W room gd x_hold x_letters x_until x_value
abbrev nm_first_loss : List Str := ["hold", "letters", "until", "told"]
theorem nd_first_loss : nm_first_loss.Nodup := by decide +kernel
theorem sc_first_loss : FnScope nm_first_loss ["hold", "letters", "until"] (defScope (top 27)) := C8.fnScope_by (by decide +kernel)
theorem w_first_loss (W : Wd K mg) {f : Addr} {cdv : Value} {A : Around} {outer : List Env} {s : Shared} {H : Hp} (room : Room 4 (A.deeper (envOfC "first_loss" (defScope (top 27)) s.heap.objs.size f cdv))) (gd : A.guards = some []) (x_hold : D) (x_letters : D) (x_until : D) :
    DB (BX P w K mg base nm_first_loss "first_loss" (defScope (top 27)) f cdv A outer s H) ⟨H, []⟩ (fun _ : Unit => [.any, .any, .any, .any]) GE (RKp K H) [.imm x_hold, .imm x_letters, .imm x_until, .any] (defBody (top 27)) (B_first_loss x_hold x_letters x_until) := by
  unfold B_first_loss
  refine db_expr (de_call (F_look_at_letters W) (room.mono (by decide : 4 ≤ 4)) gd (da_cons (de_var 0) (da_cons (de_var 1) (da_cons (de_var 2) da_nil))) (hs := by exact ⟨rfl, rfl, rfl, trivial⟩)) ?_
  refine db_asg 3 nd_first_loss (de_call (F_told_loss W) (room.mono (by decide : 2 ≤ 4)) gd (da_cons (de_var 0) (da_cons (de_var 1) (da_cons (de_var 2) da_nil))) (hs := by exact ⟨rfl, rfl, rfl, trivial⟩)) fun v1 => ?_
  exact db_ret (de_ite (dt_cmp od_is (DE.w (de_var 3)) (DE.w de_none)) de_none (de_ix (DE.w (de_var 3)) (DE.w de_int))) rkp
theorem F_first_loss (W : Wd K mg) : CalG P w K mg base 5 "first_loss" (spP K g_first_loss) :=
  calP W.d_first_loss sc_first_loss (fun _ _ _ _ _ _ us hl => match us, hl with | [_, _, _], _ => rfl) (by decide) b_first_loss (fun ds o h => by unfold b_first_loss at h; split at h <;> first | rfl | cases h)
    fun f cdv A outer s H ds hl room gd => match ds, hl with | [x_hold, x_letters, x_until], _ => w_first_loss W room gd x_hold x_letters x_until
abbrev nm_told_keeps : List Str := ["hold", "never", "found", "side", "its", "keep", "both"]
theorem nd_told_keeps : nm_told_keeps.Nodup := by decide +kernel
theorem sc_told_keeps : FnScope nm_told_keeps ["hold"] (defScope (top 28)) := C8.fnScope_by (by decide +kernel)
theorem w_told_keeps (W : Wd K mg) {f : Addr} {cdv : Value} {A : Around} {outer : List Env} {s : Shared} {H : Hp} (room : Room 0 (A.deeper (envOfC "told_keeps" (defScope (top 28)) s.heap.objs.size f cdv))) (gd : A.guards = some []) (x_hold : D) :
    DB (BX P w K mg base nm_told_keeps "told_keeps" (defScope (top 28)) f cdv A outer s H) ⟨H, []⟩ (fun _ : Unit => [.any, .any, .any, .any, .any, .any, .any]) GE (RKp K H) [.imm x_hold, .any, .any, .any, .any, .any, .any] (defBody (top 28)) (B_told_keeps x_hold) := by
  unfold B_told_keeps
  refine db_asg 1 nd_told_keeps (de_op od_mul (DE.w (de_gint W.c_MOST_KEEP)) (DE.w (de_gint W.c_MOST_KEEP))) fun v1 => ?_
  refine db_asgF 2 nd_told_keeps (df_lst da_nil (hs := by exact trivial)) fun v2 => ?_
  refine db_for (P := D) (fun l3 : List D => [.imm x_hold, .imm v1, .own l3, .any, .any, .any, .any]) v2 rfl rfl (di_seq (de_tup (da_cons de_int (da_cons de_int da_nil)) (hs := by exact ⟨rfl, rfl, trivial⟩))) ⟨.inl rfl, .inl rfl, .inl rfl, .inr rfl, .inr rfl, .inr rfl, .inr rfl, trivial⟩ (fun l3 => (dg_name 3 nd_told_keeps)) (fun l3 p4 => ?_) fun l3 => ?_
  · unfold L1_told_keeps
    refine db_append 2 rfl (de_callB (cd_min rfl (u100 room)) W.n_min (daw_cons (DE.w (DF.e (df_lstS (das_cons (de_var 1) (das_star (DE.w (DF.e (df_lc [("its", 4), ("keep", 5), ("both", 6)] rfl nd_told_keeps (DI.w (di_seq (de_var 0))) (fun _ _ _ _ _ => (dg_tup3 rfl (dg_name 4 nd_told_keeps) (fun _ => (dg_name 5 nd_told_keeps)) fun _ _ => (dg_name 6 nd_told_keeps))) (fun _ _ _ _ _ p8 => dts_one (DTw.t (dw_and (dt_cmp (od_eq (u64 room)) (DE.w (de_var 4)) (DE.w (de_var 3))) (dw_and1 (dt_not (dt_val (de_var 6))))))) (fun _ _ _ _ _ p8 => (de_var 5))))) das_nil))))) daw_nil) (hs := by exact ⟨rfl, trivial⟩)) fun v7 => ?_
    exact db_nil v7 ⟨.inl rfl, .inl rfl, .inl rfl, .inr rfl, .inr rfl, .inr rfl, .inr rfl, trivial⟩
  exact db_ret (de_tupS (das_star (dw_own 2) (das_cons (de_callB (cd_min rfl (u100 room)) W.n_min (daw_cons (DE.w (DF.e (df_lstS (das_cons (de_var 1) (das_star (DE.w (DF.e (df_lc [("its", 4), ("keep", 5), ("both", 6)] rfl nd_told_keeps (DI.w (di_seq (de_var 0))) (fun _ _ _ _ _ => (dg_tup3 rfl (dg_name 4 nd_told_keeps) (fun _ => (dg_name 5 nd_told_keeps)) fun _ _ => (dg_name 6 nd_told_keeps))) (fun _ _ _ _ _ p9 => dts_one (dt_val (de_var 6))) (fun _ _ _ _ _ p9 => (de_var 5))))) das_nil))))) daw_nil) (hs := by exact ⟨rfl, trivial⟩)) das_nil))) rkp
theorem F_told_keeps (W : Wd K mg) : CalG P w K mg base 1 "told_keeps" (spP K g_told_keeps) :=
  calP W.d_told_keeps sc_told_keeps (fun _ _ _ _ _ _ us hl => match us, hl with | [_], _ => rfl) (by decide) b_told_keeps (fun ds o h => by unfold b_told_keeps at h; split at h <;> first | rfl | cases h)
    fun f cdv A outer s H ds hl room gd => match ds, hl with | [x_hold], _ => w_told_keeps W room gd x_hold
abbrev nm_told_limit : List Str := ["keeps", "last"]
theorem nd_told_limit : nm_told_limit.Nodup := by decide +kernel
theorem sc_told_limit : FnScope nm_told_limit ["keeps", "last"] (defScope (top 29)) := C8.fnScope_by (by decide +kernel)
theorem w_told_limit (W : Wd K mg) {f : Addr} {cdv : Value} {A : Around} {outer : List Env} {s : Shared} {H : Hp} (room : Room 0 (A.deeper (envOfC "told_limit" (defScope (top 29)) s.heap.objs.size f cdv))) (gd : A.guards = some []) (x_keeps : D) (x_last : D) :
    DB (BX P w K mg base nm_told_limit "told_limit" (defScope (top 29)) f cdv A outer s H) ⟨H, []⟩ (fun _ : Unit => [.any, .any]) GE (RKp K H) [.imm x_keeps, .imm x_last] (defBody (top 29)) (B_told_limit x_keeps x_last) := by
  unfold B_told_limit
  exact db_ret (de_callB (cd_min rfl (u100 room)) W.n_min (daw_cons (DE.w (de_plus (DE.w (de_ix (DE.w (de_var 1)) (DE.w de_int))) (DE.w (de_ix (DE.w (de_var 0)) (DE.w de_int))))) (daw_cons (DE.w (de_plus (DE.w (de_ix (DE.w (de_var 1)) (DE.w de_int))) (DE.w (de_ix (DE.w (de_var 0)) (DE.w de_int))))) (daw_cons (DE.w (de_plus (DE.w (de_callB (cd_max rfl (u100 room)) W.n_max (daw_cons (DE.w (de_var 1)) daw_nil) (hs := by exact ⟨rfl, trivial⟩))) (DE.w (de_ix (DE.w (de_var 0)) (DE.w de_int))))) daw_nil))) (hs := by exact ⟨rfl, rfl, rfl, trivial⟩)) rkp
theorem F_told_limit (W : Wd K mg) : CalG P w K mg base 1 "told_limit" (spP K g_told_limit) :=
  calP W.d_told_limit sc_told_limit (fun _ _ _ _ _ _ us hl => match us, hl with | [_, _], _ => rfl) (by decide) b_told_limit (fun ds o h => by unfold b_told_limit at h; split at h <;> first | rfl | cases h)
    fun f cdv A outer s H ds hl room gd => match ds, hl with | [x_keeps, x_last], _ => w_told_limit W room gd x_keeps x_last
abbrev nm_is_worse : List Str := ["one", "other"]
theorem nd_is_worse : nm_is_worse.Nodup := by decide +kernel
theorem sc_is_worse : FnScope nm_is_worse ["one", "other"] (defScope (top 31)) := C8.fnScope_by (by decide +kernel)
theorem w_is_worse (W : Wd K mg) {f : Addr} {cdv : Value} {A : Around} {outer : List Env} {s : Shared} {H : Hp} (room : Room 0 (A.deeper (envOfC "is_worse" (defScope (top 31)) s.heap.objs.size f cdv))) (gd : A.guards = some []) (x_one : D) (x_other : D) :
    DB (BX P w K mg base nm_is_worse "is_worse" (defScope (top 31)) f cdv A outer s H) ⟨H, []⟩ (fun _ : Unit => [.any, .any]) GE (RKp K H) [.imm x_one, .imm x_other] (defBody (top 31)) (B_is_worse x_one x_other) := by
  unfold B_is_worse
  exact db_ret (de_and (de_cmp (od_ne (u64 room)) (DE.w (de_var 0)) (DE.w (de_var 1))) (de_and (de_cmp (od_le (u64 room)) (DE.w (de_ix (DE.w (de_var 0)) (DE.w de_int))) (DE.w (de_ix (DE.w (de_var 1)) (DE.w de_int)))) (de_one (de_cmp (od_le (u64 room)) (DE.w (de_ix (DE.w (de_var 0)) (DE.w de_int))) (DE.w (de_ix (DE.w (de_var 1)) (DE.w de_int))))))) rkp
theorem F_is_worse (W : Wd K mg) : CalG P w K mg base 1 "is_worse" (spP K g_is_worse) :=
  calP W.d_is_worse sc_is_worse (fun _ _ _ _ _ _ us hl => match us, hl with | [_, _], _ => rfl) (by decide) b_is_worse (fun ds o h => by unfold b_is_worse at h; split at h <;> first | rfl | cases h)
    fun f cdv A outer s H ds hl room gd => match ds, hl with | [x_one, x_other], _ => w_is_worse W room gd x_one x_other
abbrev nm_told_fewest : List Str := ["hold", "until", "keeps", "start", "layer", "ahead", "fit", "last", "letters", "here", "letter", "later", "tick", "side", "made", "one", "other"]
theorem nd_told_fewest : nm_told_fewest.Nodup := by decide +kernel
theorem sc_told_fewest : FnScope nm_told_fewest ["hold", "until"] (defScope (top 30)) := C8.fnScope_by (by decide +kernel)
theorem w_told_fewest (W : Wd K mg) {f : Addr} {cdv : Value} {A : Around} {outer : List Env} {s : Shared} {H : Hp} (room : Room 1 (A.deeper (envOfC "told_fewest" (defScope (top 30)) s.heap.objs.size f cdv))) (gd : A.guards = some []) (x_hold : D) (x_until : D) :
    DB (BX P w K mg base nm_told_fewest "told_fewest" (defScope (top 30)) f cdv A outer s H) ⟨H, []⟩ (fun _ : Unit => [.any, .any, .any, .any, .any, .any, .any, .any, .any, .any, .any, .any, .any, .any, .any, .any, .any]) GE (RKp K H) [.imm x_hold, .imm x_until, .any, .any, .any, .any, .any, .any, .any, .any, .any, .any, .any, .any, .any, .any, .any] (defBody (top 30)) (B_told_fewest x_hold x_until) := by
  unfold B_told_fewest
  refine db_unp (de_tup (da_cons (de_call (F_told_keeps W) (room.mono (by decide : 1 ≤ 1)) gd (da_cons (de_var 0) da_nil) (hs := by exact ⟨rfl, trivial⟩)) (da_cons (de_tup (da_cons de_int (da_cons de_int da_nil)) (hs := by exact ⟨rfl, rfl, trivial⟩)) da_nil)) (hs := by exact ⟨rfl, rfl, trivial⟩)) (dg_tup2 rfl (dg_name 2 nd_told_fewest) fun _ => (dg_name 3 nd_told_fewest)) fun v1 => ?_
  refine dbx_par (T := Unit) (G := fun _ => [.imm x_hold, .imm x_until, .imm v1.1, .imm v1.2, .any, .any, .any, .any, .any, .any, .any, .any, .any, .any, .any, .any, .any]) (t := ()) .imm .dtt 4 5 rfl nd_told_fewest (dxk_imm (dx_lift fun _ => (DF.e (df_lst (da_cons (de_var 3) da_nil) (hs := by exact ⟨rfl, trivial⟩))))) (dxk_dispT rfl (u100 room) (fun _ => (de_var 3)) fun _ => de_none) fun v2 => ?_
  refine db_while (fun l3 : D × List (D × D) => [.imm x_hold, .imm x_until, .imm v1.1, .imm v1.2, .imm l3.1, .dtt l3.2, .any, .any, .any, .any, .any, .any, .any, .any, .any, .any, .any]) (v2.1.1, v2.1.2) 1000000 rfl ⟨.inl rfl, .inl rfl, .inl rfl, .inl rfl, .inl rfl, .inl rfl, .inr rfl, .inr rfl, .inr rfl, .inr rfl, .inr rfl, .inr rfl, .inr rfl, .inr rfl, .inr rfl, .inr rfl, .inr rfl, trivial⟩ (fun l3 => (dt_val de_bool)) (fun l3 => ?_) fun l3 => ?_
  · unfold L4_told_fewest
    refine db_setLc 6 [("last", 7)] rfl nd_told_fewest (DI.w (di_seq (de_var 4))) (fun _ _ _ _ _ => (dg_name 7 nd_told_fewest)) (fun _ _ _ _ _ p56 => dts_one (dt_cmp (od_ge (u64 room)) (DE.w (de_call (F_told_limit W) (room.mono (by decide : 1 ≤ 1)) gd (da_cons (de_var 2) (da_cons (de_var 7) da_nil)) (hs := by exact ⟨rfl, rfl, trivial⟩))) (DE.w (de_var 1)))) (fun _ _ _ _ _ p56 => (de_var 7)) fun v55 => ?_
    refine db_frz 6 ?_
    refine db_ifr (dt_cmp (od_ne (u64 room)) (DE.w (de_var 6)) (DE.w (DF.e (df_lst da_nil (hs := by exact trivial))))) ?_ ?_
    · refine dbx_par (T := Unit) (G := fun _ => [.imm x_hold, .imm x_until, .imm v1.1, .imm v1.2, .imm l3.1, .dtt l3.2, .imm ((PyData.list v55)), .any, .any, .any, .any, .any, .any, .any, .any, .any, .any]) (t := ()) .own .imm 8 9 rfl nd_told_fewest (dxk_own (dxf_lift fun _ => (df_lst da_nil (hs := by exact trivial)))) (dxk_imm (dx_lift fun _ => (de_ix (DE.w (de_var 6)) (DE.w de_int)))) fun v58 => ?_
      refine db_while (fun l59 : List D × D => [.imm x_hold, .imm x_until, .imm v1.1, .imm v1.2, .imm l3.1, .dtt l3.2, .imm ((PyData.list v55)), .any, .own l59.1, .imm l59.2, .any, .any, .any, .any, .any, .any, .any]) (v58.1.1, v58.1.2) 1000000 rfl ⟨.inl rfl, .inl rfl, .inl rfl, .inl rfl, .inl rfl, .inl rfl, .inl rfl, .inr rfl, .inl rfl, .inl rfl, .inr rfl, .inr rfl, .inr rfl, .inr rfl, .inr rfl, .inr rfl, .inr rfl, trivial⟩ (fun l59 => (dt_cmp od_isnot (DE.w (de_getT 5 rfl (u100 room) (de_var 9))) (DE.w de_none))) (fun l59 => ?_) fun l59 => ?_
      · unfold L1_told_fewest
        refine db_unp (de_getT 5 rfl (u100 room) (de_var 9)) (dg_tup2 rfl (dg_name 9 nd_told_fewest) fun _ => (dg_name 10 nd_told_fewest)) fun v63 => ?_
        refine db_append 8 rfl (de_var 10) fun v64 => ?_
        exact db_nil (v64, v63.1) ⟨.inl rfl, .inl rfl, .inl rfl, .inl rfl, .inl rfl, .inl rfl, .inl rfl, .inr rfl, .inl rfl, .inl rfl, .inr rfl, .inr rfl, .inr rfl, .inr rfl, .inr rfl, .inr rfl, .inr rfl, trivial⟩
      exact db_ret (DF.e (df_revL (dw_own 8))) rkp
    refine db_asgF 11 nd_told_fewest (df_lst da_nil (hs := by exact trivial)) fun v65 => ?_
    refine db_for (P := D) (fun l66 : List (D × D) × List D => [.imm x_hold, .imm x_until, .imm v1.1, .imm v1.2, .imm l3.1, .dtt l66.1, .imm ((PyData.list v55)), .any, .any, .any, .any, .own l66.2, .any, .any, .any, .any, .any]) (l3.2, v65) rfl rfl (di_seq (de_var 4)) ⟨.inl rfl, .inl rfl, .inl rfl, .inl rfl, .inl rfl, .inl rfl, .inl rfl, .inr rfl, .inr rfl, .inr rfl, .inr rfl, .inl rfl, .inr rfl, .inr rfl, .inr rfl, .inr rfl, .inr rfl, trivial⟩ (fun l66 => (dg_name 7 nd_told_fewest)) (fun l66 p67 => ?_) fun l66 => ?_
    · unfold L3_told_fewest
      refine db_asg 12 nd_told_fewest (de_call (F_told_limit W) (room.mono (by decide : 1 ≤ 1)) gd (da_cons (de_var 2) (da_cons (de_var 7) da_nil)) (hs := by exact ⟨rfl, rfl, trivial⟩)) fun v85 => ?_
      refine db_for (P := D) (fun l86 : List (D × D) × List D => [.imm x_hold, .imm x_until, .imm v1.1, .imm v1.2, .imm l3.1, .dtt l86.1, .imm ((PyData.list v55)), .imm p67, .any, .any, .any, .own l86.2, .imm v85, .any, .any, .any, .any]) (l66.1, l66.2) rfl rfl (di_seq (de_tup (da_cons de_int (da_cons de_int da_nil)) (hs := by exact ⟨rfl, rfl, trivial⟩))) ⟨.inl rfl, .inl rfl, .inl rfl, .inl rfl, .inl rfl, .inl rfl, .inl rfl, .inl rfl, .inr rfl, .inr rfl, .inr rfl, .inl rfl, .inl rfl, .inr rfl, .inr rfl, .inr rfl, .inr rfl, trivial⟩ (fun l86 => (dg_name 13 nd_told_fewest)) (fun l86 p87 => ?_) fun l86 => ?_
      · unfold L2_told_fewest
        refine db_asg 14 nd_told_fewest (de_ite (dt_cmp (od_eq (u64 room)) (DE.w (de_var 13)) (DE.w de_int)) (de_tup (da_cons (de_var 12) (da_cons (de_ix (DE.w (de_var 7)) (DE.w de_int)) da_nil)) (hs := by exact ⟨rfl, rfl, trivial⟩)) (de_tup (da_cons (de_ix (DE.w (de_var 7)) (DE.w de_int)) (da_cons (de_var 12) da_nil)) (hs := by exact ⟨rfl, rfl, trivial⟩))) fun v95 => ?_
        refine db_if (fun n99 : List (D × D) × List D => [.imm x_hold, .imm x_until, .imm v1.1, .imm v1.2, .imm l3.1, .dtt n99.1, .imm ((PyData.list v55)), .imm p67, .any, .any, .any, .own n99.2, .imm v85, .imm p87, .imm v95, .any, .any]) (dt_notinT 5 rfl (u100 room) (de_var 14)) ?_ ?_ fun n99 => ?_
        · refine db_setT 5 rfl (u100 room) (de_tup (da_cons (de_var 7) (da_cons (de_tup (da_cons (de_var 12) (da_cons (de_var 13) da_nil)) (hs := by exact ⟨rfl, rfl, trivial⟩)) da_nil)) (hs := by exact ⟨rfl, rfl, trivial⟩)) (de_var 14) fun v100 => ?_
          refine db_append 11 rfl (de_var 14) fun v101 => ?_
          exact db_nil (v100, v101) ⟨.inl rfl, .inl rfl, .inl rfl, .inl rfl, .inl rfl, .inl rfl, .inl rfl, .inl rfl, .inr rfl, .inr rfl, .inr rfl, .inl rfl, .inl rfl, .inl rfl, .inl rfl, .inr rfl, .inr rfl, trivial⟩
        · exact db_nil (l86.1, l86.2) ⟨.inl rfl, .inl rfl, .inl rfl, .inl rfl, .inl rfl, .inl rfl, .inl rfl, .inl rfl, .inr rfl, .inr rfl, .inr rfl, .inl rfl, .inl rfl, .inl rfl, .inl rfl, .inr rfl, .inr rfl, trivial⟩
        exact db_nil (n99.1, n99.2) ⟨.inl rfl, .inl rfl, .inl rfl, .inl rfl, .inl rfl, .inl rfl, .inl rfl, .inl rfl, .inr rfl, .inr rfl, .inr rfl, .inl rfl, .inl rfl, .inr rfl, .inr rfl, .inr rfl, .inr rfl, trivial⟩
      exact db_nil (l86.1, l86.2) ⟨.inl rfl, .inl rfl, .inl rfl, .inl rfl, .inl rfl, .inl rfl, .inl rfl, .inr rfl, .inr rfl, .inr rfl, .inr rfl, .inl rfl, .inr rfl, .inr rfl, .inr rfl, .inr rfl, .inr rfl, trivial⟩
    refine db_setLc 4 [("one", 15)] rfl nd_told_fewest (diw_own (dw_own 11)) (fun _ _ _ _ _ => (dg_name 15 nd_told_fewest)) (fun _ _ _ _ _ p103 => dts_one (dt_not (dt_val (de_callB (cd_any rfl) W.n_any (daw_cons (DE.w (DF.e (df_lc [("other", 16)] rfl nd_told_fewest (diw_own (dw_own 11)) (fun _ _ _ _ _ => (dg_name 16 nd_told_fewest)) (fun _ _ _ _ _ p104 => dts_nil) (fun _ _ _ _ _ p104 => (de_call (F_is_worse W) (room.mono (by decide : 1 ≤ 1)) gd (da_cons (de_var 15) (da_cons (de_var 16) da_nil)) (hs := by exact ⟨rfl, rfl, trivial⟩)))))) daw_nil) (hs := by exact ⟨rfl, trivial⟩))))) (fun _ _ _ _ _ p103 => (de_var 15)) fun v102 => ?_
    refine db_frz 4 ?_
    exact db_nil ((PyData.list v102), l66.1) ⟨.inl rfl, .inl rfl, .inl rfl, .inl rfl, .inl rfl, .inl rfl, .inr rfl, .inr rfl, .inr rfl, .inr rfl, .inr rfl, .inr rfl, .inr rfl, .inr rfl, .inr rfl, .inr rfl, .inr rfl, trivial⟩
  exact db_nil () ⟨.inr rfl, .inr rfl, .inr rfl, .inr rfl, .inr rfl, .inr rfl, .inr rfl, .inr rfl, .inr rfl, .inr rfl, .inr rfl, .inr rfl, .inr rfl, .inr rfl, .inr rfl, .inr rfl, .inr rfl, trivial⟩
theorem F_told_fewest (W : Wd K mg) : CalG P w K mg base 2 "told_fewest" (spP K g_told_fewest) :=
  calP W.d_told_fewest sc_told_fewest (fun _ _ _ _ _ _ us hl => match us, hl with | [_, _], _ => rfl) (by decide) b_told_fewest (fun ds o h => by unfold b_told_fewest at h; split at h <;> first | rfl | cases h)
    fun f cdv A outer s H ds hl room gd => match ds, hl with | [x_hold, x_until], _ => w_told_fewest W room gd x_hold x_until
abbrev nm_fewest_letters : List Str := ["hold", "until"]
theorem nd_fewest_letters : nm_fewest_letters.Nodup := by decide +kernel
theorem sc_fewest_letters : FnScope nm_fewest_letters ["hold", "until"] (defScope (top 32)) := C8.fnScope_by (by decide +kernel)
theorem w_fewest_letters (W : Wd K mg) {f : Addr} {cdv : Value} {A : Around} {outer : List Env} {s : Shared} {H : Hp} (room : Room 3 (A.deeper (envOfC "fewest_letters" (defScope (top 32)) s.heap.objs.size f cdv))) (gd : A.guards = some []) (x_hold : D) (x_until : D) :
    DB (BX P w K mg base nm_fewest_letters "fewest_letters" (defScope (top 32)) f cdv A outer s H) ⟨H, []⟩ (fun _ : Unit => [.any, .any]) GE (RKp K H) [.imm x_hold, .imm x_until] (defBody (top 32)) (B_fewest_letters x_hold x_until) := by
  unfold B_fewest_letters
  refine db_expr (de_call (F_look_at_hold W) (room.mono (by decide : 3 ≤ 3)) gd (da_cons (de_var 0) (da_cons (de_var 1) da_nil)) (hs := by exact ⟨rfl, rfl, trivial⟩)) ?_
  exact db_ret (de_callT cd_tuple W.n_tuple (daw_cons (DE.w (de_call (F_told_fewest W) (room.mono (by decide : 2 ≤ 3)) gd (da_cons (de_var 0) (da_cons (de_var 1) da_nil)) (hs := by exact ⟨rfl, rfl, trivial⟩))) daw_nil) (hs := by exact ⟨rfl, trivial⟩)) rkp
theorem F_fewest_letters (W : Wd K mg) : CalG P w K mg base 4 "fewest_letters" (spP K g_fewest_letters) :=
  calP W.d_fewest_letters sc_fewest_letters (fun _ _ _ _ _ _ us hl => match us, hl with | [_, _], _ => rfl) (by decide) b_fewest_letters (fun ds o h => by unfold b_fewest_letters at h; split at h <;> first | rfl | cases h)
    fun f cdv A outer s H ds hl room gd => match ds, hl with | [x_hold, x_until], _ => w_fewest_letters W room gd x_hold x_until
abbrev nm_shows_fewest_letters : List Str := ["hold", "until", "value"]
theorem nd_shows_fewest_letters : nm_shows_fewest_letters.Nodup := by decide +kernel
theorem sc_shows_fewest_letters : FnScope nm_shows_fewest_letters ["hold", "until", "value"] (defScope (top 33)) := C8.fnScope_by (by decide +kernel)
theorem w_shows_fewest_letters (W : Wd K mg) {f : Addr} {cdv : Value} {A : Around} {outer : List Env} {s : Shared} {H : Hp} (room : Room 3 (A.deeper (envOfC "shows_fewest_letters" (defScope (top 33)) s.heap.objs.size f cdv))) (gd : A.guards = some []) (x_hold : D) (x_until : D) (x_value : D) :
    DB (BX P w K mg base nm_shows_fewest_letters "shows_fewest_letters" (defScope (top 33)) f cdv A outer s H) ⟨H, []⟩ (fun _ : Unit => [.any, .any, .any]) GE (RKp K H) [.imm x_hold, .imm x_until, .imm x_value] (defBody (top 33)) (B_shows_fewest_letters x_hold x_until x_value) := by
  unfold B_shows_fewest_letters
  refine db_expr (de_call (F_look_at_hold W) (room.mono (by decide : 3 ≤ 3)) gd (da_cons (de_var 0) (da_cons (de_var 1) da_nil)) (hs := by exact ⟨rfl, rfl, trivial⟩)) ?_
  refine db_ifr (DTw.t (dw_or (dt_not (dt_val (de_call (F_are_letters W) (room.mono (by decide : 2 ≤ 3)) gd (da_cons (de_var 2) (da_cons (de_var 1) da_nil)) (hs := by exact ⟨rfl, rfl, trivial⟩)))) (dw_or1 (dt_cmp od_isnot (DE.w (de_call (F_told_loss W) (room.mono (by decide : 2 ≤ 3)) gd (da_cons (de_var 0) (da_cons (de_var 2) (da_cons (de_var 1) da_nil))) (hs := by exact ⟨rfl, rfl, rfl, trivial⟩))) (DE.w de_none))))) ?_ ?_
  · exact db_ret de_bool rkp
  exact db_ret (de_cmp (od_eq (u64 room)) (DE.w (de_callB cd_len W.n_len (daw_cons (DE.w (de_var 2)) daw_nil) (hs := by exact ⟨rfl, trivial⟩))) (DE.w (de_callB cd_len W.n_len (daw_cons (DE.w (de_call (F_told_fewest W) (room.mono (by decide : 2 ≤ 3)) gd (da_cons (de_var 0) (da_cons (de_var 1) da_nil)) (hs := by exact ⟨rfl, rfl, trivial⟩))) daw_nil) (hs := by exact ⟨rfl, trivial⟩)))) rkp
theorem F_shows_fewest_letters (W : Wd K mg) : CalG P w K mg base 4 "shows_fewest_letters" (spP K g_shows_fewest_letters) :=
  calP W.d_shows_fewest_letters sc_shows_fewest_letters (fun _ _ _ _ _ _ us hl => match us, hl with | [_, _, _], _ => rfl) (by decide) b_shows_fewest_letters (fun ds o h => by unfold b_shows_fewest_letters at h; split at h <;> first | rfl | cases h)
    fun f cdv A outer s H ds hl room gd => match ds, hl with | [x_hold, x_until, x_value], _ => w_shows_fewest_letters W room gd x_hold x_until x_value
abbrev nm_look_at_spans : List Str := ["spans", "span"]
theorem nd_look_at_spans : nm_look_at_spans.Nodup := by decide +kernel
theorem sc_look_at_spans : FnScope nm_look_at_spans ["spans"] (defScope (top 37)) := C8.fnScope_by (by decide +kernel)
theorem w_look_at_spans (W : Wd K mg) {f : Addr} {cdv : Value} {A : Around} {outer : List Env} {s : Shared} {H : Hp} (room : Room 2 (A.deeper (envOfC "look_at_spans" (defScope (top 37)) s.heap.objs.size f cdv))) (gd : A.guards = some []) (x_spans : D) :
    DB (BX P w K mg base nm_look_at_spans "look_at_spans" (defScope (top 37)) f cdv A outer s H) ⟨H, []⟩ (fun _ : Unit => [.any, .any]) GE (RKp K H) [.imm x_spans, .any] (defBody (top 37)) (B_look_at_spans x_spans) := by
  unfold B_look_at_spans
  refine db_ifr (DTw.t (dw_or (dt_not (dt_val (de_isi W.n_isinstance W.n_tuple (DE.w (de_var 0))))) (dw_or1 (dt_not (dt_chain (od_le (u64 room)) (od_le (u64 room)) (DE.w de_int) (DE.w (de_callB cd_len W.n_len (daw_cons (DE.w (de_var 0)) daw_nil) (hs := by exact ⟨rfl, trivial⟩))) (DE.w (de_gint W.c_MOST_SOME))))))) ?_ ?_
  · exact db_none
  refine db_for (P := D) (fun l2 : Unit => [.imm x_spans, .any]) () rfl rfl (di_seq (de_var 0)) ⟨.inl rfl, .inr rfl, trivial⟩ (fun l2 => (dg_name 1 nd_look_at_spans)) (fun l2 p3 => ?_) fun l2 => ?_
  · unfold L1_look_at_spans
    refine db_ifr (DTw.t (dw_or (dt_not (dt_val (de_call (F_are_ints W) (room.mono (by decide : 2 ≤ 2)) gd (da_cons (de_var 1) (da_cons (de_un ud_neg (de_gint W.c_MOST_TIME)) (da_cons (de_gint W.c_MOST_TIME) da_nil))) (hs := by exact ⟨rfl, rfl, rfl, trivial⟩)))) (dw_or (dt_cmp (od_ne (u64 room)) (DE.w (de_callB cd_len W.n_len (daw_cons (DE.w (de_var 1)) daw_nil) (hs := by exact ⟨rfl, trivial⟩))) (DE.w de_int)) (dw_or1 (dt_cmp (od_gt (u64 room)) (DE.w (de_ix (DE.w (de_var 1)) (DE.w de_int))) (DE.w (de_ix (DE.w (de_var 1)) (DE.w de_int)))))))) ?_ ?_
    · exact db_none
    exact db_nil () ⟨.inl rfl, .inr rfl, trivial⟩
  exact db_nil () ⟨.inr rfl, .inr rfl, trivial⟩
theorem F_look_at_spans (W : Wd K mg) : CalG P w K mg base 3 "look_at_spans" (spP K g_look_at_spans) :=
  calP W.d_look_at_spans sc_look_at_spans (fun _ _ _ _ _ _ us hl => match us, hl with | [_], _ => rfl) (by decide) b_look_at_spans (fun ds o h => by unfold b_look_at_spans at h; split at h <;> first | rfl | cases h)
    fun f cdv A outer s H ds hl room gd => match ds, hl with | [x_spans], _ => w_look_at_spans W room gd x_spans
abbrev nm_told_points : List Str := ["spans", "points", "lone", "high", "low", "at", "span"]
theorem nd_told_points : nm_told_points.Nodup := by decide +kernel
theorem sc_told_points : FnScope nm_told_points ["spans"] (defScope (top 38)) := C8.fnScope_by (by decide +kernel)
theorem w_told_points (W : Wd K mg) {f : Addr} {cdv : Value} {A : Around} {outer : List Env} {s : Shared} {H : Hp} (room : Room 0 (A.deeper (envOfC "told_points" (defScope (top 38)) s.heap.objs.size f cdv))) (gd : A.guards = some []) (x_spans : D) :
    DB (BX P w K mg base nm_told_points "told_points" (defScope (top 38)) f cdv A outer s H) ⟨H, []⟩ (fun _ : Unit => [.any, .any, .any, .any, .any, .any, .any]) GE (RKp K H) [.imm x_spans, .any, .any, .any, .any, .any, .any] (defBody (top 38)) (B_told_points x_spans) := by
  unfold B_told_points
  refine dbx_par (T := Unit) (G := fun _ => [.imm x_spans, .any, .any, .any, .any, .any, .any]) (t := ()) .own .own 1 2 rfl nd_told_points (dxk_own (dxf_lift fun _ => (df_lst da_nil (hs := by exact trivial)))) (dxk_own (dxf_lift fun _ => (df_lst da_nil (hs := by exact trivial)))) fun v1 => ?_
  refine db_for (P := (D × D × D)) (fun l2 : List D × List D => [.imm x_spans, .own l2.1, .own l2.2, .any, .any, .any, .any]) (v1.1.1, v1.1.2) rfl rfl (di_seq (DF.e (df_callB (cf_sorted (u100 room)) W.n_sorted (daw_cons (DE.w (DF.e (df_lc [("at", 5), ("span", 6)] rfl nd_told_points (DI.w (di_enum W.n_enumerate (de_var 0))) (fun _ _ _ _ _ => (dg_tup2 rfl (dg_name 5 nd_told_points) fun _ => (dg_name 6 nd_told_points))) (fun _ _ _ _ _ p16 => dts_nil) (fun _ _ _ _ _ p16 => (de_tup (da_cons (de_ix (DE.w (de_var 6)) (DE.w de_int)) (da_cons (de_ix (DE.w (de_var 6)) (DE.w de_int)) (da_cons (de_var 5) da_nil))) (hs := by exact ⟨rfl, rfl, rfl, trivial⟩)))))) daw_nil) (hs := by exact ⟨rfl, trivial⟩)))) ⟨.inl rfl, .inl rfl, .inl rfl, .inr rfl, .inr rfl, .inr rfl, .inr rfl, trivial⟩ (fun l2 => (dg_tup3 rfl (dg_name 3 nd_told_points) (fun _ => (dg_name 4 nd_told_points)) fun _ _ => (dg_name 5 nd_told_points))) (fun l2 p3 => ?_) fun l2 => ?_
  · unfold L1_told_points
    refine db_if (fun n13 : List D × List D => [.imm x_spans, .own n13.1, .own n13.2, .imm p3.1, .imm p3.2.1, .imm p3.2.2, .any]) (DTw.t (dw_or (dt_cmp (od_eq (u64 room)) (dw_own 1) (DE.w (DF.e (df_lst da_nil (hs := by exact trivial))))) (dw_or1 (dt_cmp (od_lt (u64 room)) (DE.w (de_ix (dw_own 1) (DE.w (de_un ud_neg de_int)))) (DE.w (de_var 4)))))) ?_ ?_ fun n13 => ?_
    · refine db_append 1 rfl (de_var 3) fun v14 => ?_
      refine db_append 2 rfl (de_var 5) fun v15 => ?_
      exact db_nil (v14, v15) ⟨.inl rfl, .inl rfl, .inl rfl, .inl rfl, .inl rfl, .inl rfl, .inr rfl, trivial⟩
    · exact db_nil (l2.1, l2.2) ⟨.inl rfl, .inl rfl, .inl rfl, .inl rfl, .inl rfl, .inl rfl, .inr rfl, trivial⟩
    exact db_nil (n13.1, n13.2) ⟨.inl rfl, .inl rfl, .inl rfl, .inr rfl, .inr rfl, .inr rfl, .inr rfl, trivial⟩
  exact db_ret (de_tup (da_cons (de_callT cd_tuple W.n_tuple (daw_cons (dw_own 1) daw_nil) (hs := by exact ⟨rfl, trivial⟩)) (da_cons (de_callT cd_tuple W.n_tuple (daw_cons (DE.w (DF.e (df_callB (cf_sorted (u100 room)) W.n_sorted (daw_cons (dw_own 2) daw_nil) (hs := by exact ⟨rfl, trivial⟩)))) daw_nil) (hs := by exact ⟨rfl, trivial⟩)) da_nil)) (hs := by exact ⟨rfl, rfl, trivial⟩)) rkp
theorem F_told_points (W : Wd K mg) : CalG P w K mg base 1 "told_points" (spP K g_told_points) :=
  calP W.d_told_points sc_told_points (fun _ _ _ _ _ _ us hl => match us, hl with | [_], _ => rfl) (by decide) b_told_points (fun ds o h => by unfold b_told_points at h; split at h <;> first | rfl | cases h)
    fun f cdv A outer s H ds hl room gd => match ds, hl with | [x_spans], _ => w_told_points W room gd x_spans
abbrev nm_fewest_numbers : List Str := ["spans"]
theorem nd_fewest_numbers : nm_fewest_numbers.Nodup := by decide +kernel
theorem sc_fewest_numbers : FnScope nm_fewest_numbers ["spans"] (defScope (top 39)) := C8.fnScope_by (by decide +kernel)
theorem w_fewest_numbers (W : Wd K mg) {f : Addr} {cdv : Value} {A : Around} {outer : List Env} {s : Shared} {H : Hp} (room : Room 3 (A.deeper (envOfC "fewest_numbers" (defScope (top 39)) s.heap.objs.size f cdv))) (gd : A.guards = some []) (x_spans : D) :
    DB (BX P w K mg base nm_fewest_numbers "fewest_numbers" (defScope (top 39)) f cdv A outer s H) ⟨H, []⟩ (fun _ : Unit => [.any]) GE (RKp K H) [.imm x_spans] (defBody (top 39)) (B_fewest_numbers x_spans) := by
  unfold B_fewest_numbers
  refine db_expr (de_call (F_look_at_spans W) (room.mono (by decide : 3 ≤ 3)) gd (da_cons (de_var 0) da_nil) (hs := by exact ⟨rfl, trivial⟩)) ?_
  exact db_ret (de_call (F_told_points W) (room.mono (by decide : 1 ≤ 3)) gd (da_cons (de_var 0) da_nil) (hs := by exact ⟨rfl, trivial⟩)) rkp
theorem F_fewest_numbers (W : Wd K mg) : CalG P w K mg base 4 "fewest_numbers" (spP K g_fewest_numbers) :=
  calP W.d_fewest_numbers sc_fewest_numbers (fun _ _ _ _ _ _ us hl => match us, hl with | [_], _ => rfl) (by decide) b_fewest_numbers (fun ds o h => by unfold b_fewest_numbers at h; split at h <;> first | rfl | cases h)
    fun f cdv A outer s H ds hl room gd => match ds, hl with | [x_spans], _ => w_fewest_numbers W room gd x_spans
abbrev nm_shows_fewest_numbers : List Str := ["spans", "value", "points", "lone", "some", "at", "one", "other", "point", "span"]
theorem nd_shows_fewest_numbers : nm_shows_fewest_numbers.Nodup := by decide +kernel
theorem sc_shows_fewest_numbers : FnScope nm_shows_fewest_numbers ["spans", "value"] (defScope (top 40)) := C8.fnScope_by (by decide +kernel)
theorem w_shows_fewest_numbers (W : Wd K mg) {f : Addr} {cdv : Value} {A : Around} {outer : List Env} {s : Shared} {H : Hp} (room : Room 3 (A.deeper (envOfC "shows_fewest_numbers" (defScope (top 40)) s.heap.objs.size f cdv))) (gd : A.guards = some []) (x_spans : D) (x_value : D) :
    DB (BX P w K mg base nm_shows_fewest_numbers "shows_fewest_numbers" (defScope (top 40)) f cdv A outer s H) ⟨H, []⟩ (fun _ : Unit => [.any, .any, .any, .any, .any, .any, .any, .any, .any, .any]) GE (RKp K H) [.imm x_spans, .imm x_value, .any, .any, .any, .any, .any, .any, .any, .any] (defBody (top 40)) (B_shows_fewest_numbers x_spans x_value) := by
  unfold B_shows_fewest_numbers
  refine db_expr (de_call (F_look_at_spans W) (room.mono (by decide : 3 ≤ 3)) gd (da_cons (de_var 0) da_nil) (hs := by exact ⟨rfl, trivial⟩)) ?_
  refine db_ifr (DTw.t (dw_or (dt_not (dt_val (de_isi W.n_isinstance W.n_tuple (DE.w (de_var 1))))) (dw_or (dt_cmp (od_ne (u64 room)) (DE.w (de_callB cd_len W.n_len (daw_cons (DE.w (de_var 1)) daw_nil) (hs := by exact ⟨rfl, trivial⟩))) (DE.w de_int)) (dw_or1 (dt_not (dt_val (de_call (F_are_ints W) (room.mono (by decide : 2 ≤ 3)) gd (da_cons (de_ix (DE.w (de_var 1)) (DE.w de_int)) (da_cons (de_un ud_neg (de_gint W.c_MOST_TIME)) (da_cons (de_gint W.c_MOST_TIME) da_nil))) (hs := by exact ⟨rfl, rfl, rfl, trivial⟩)))))))) ?_ ?_
  · exact db_ret de_bool rkp
  refine db_unp (de_var 1) (dg_tup2 rfl (dg_name 2 nd_shows_fewest_numbers) fun _ => (dg_name 3 nd_shows_fewest_numbers)) fun v2 => ?_
  refine db_ifr (DTw.t (dw_or (dt_not (dt_val (de_call (F_are_ints W) (room.mono (by decide : 2 ≤ 3)) gd (da_cons (de_var 3) (da_cons de_int (da_cons (de_op od_sub (DE.w (de_callB cd_len W.n_len (daw_cons (DE.w (de_var 0)) daw_nil) (hs := by exact ⟨rfl, trivial⟩))) (DE.w de_int)) da_nil))) (hs := by exact ⟨rfl, rfl, rfl, trivial⟩)))) (dw_or (dt_cmp (od_ne (u64 room)) (DE.w (de_lset rfl W.n_len W.n_set (DE.w (de_var 3)))) (DE.w (de_callB cd_len W.n_len (daw_cons (DE.w (de_var 3)) daw_nil) (hs := by exact ⟨rfl, trivial⟩)))) (dw_or1 (dt_cmp (od_ne (u64 room)) (DE.w (de_callB cd_len W.n_len (daw_cons (DE.w (de_var 3)) daw_nil) (hs := by exact ⟨rfl, trivial⟩))) (DE.w (de_callB cd_len W.n_len (daw_cons (DE.w (de_var 2)) daw_nil) (hs := by exact ⟨rfl, trivial⟩)))))))) ?_ ?_
  · exact db_ret de_bool rkp
  refine db_asg 4 nd_shows_fewest_numbers (DF.e (df_callB (cf_sorted (u100 room)) W.n_sorted (daw_cons (DE.w (DF.e (df_lc [("at", 5)] rfl nd_shows_fewest_numbers (DI.w (di_seq (de_var 3))) (fun _ _ _ _ _ => (dg_name 5 nd_shows_fewest_numbers)) (fun _ _ _ _ _ p5 => dts_nil) (fun _ _ _ _ _ p5 => (de_ix (DE.w (de_var 0)) (DE.w (de_var 5))))))) daw_nil) (hs := by exact ⟨rfl, trivial⟩))) fun v4 => ?_
  refine db_ifr (dt_not (dt_val (de_callB (cd_all rfl) W.n_all (daw_cons (DE.w (DF.e (df_lc [("one", 6), ("other", 7)] rfl nd_shows_fewest_numbers (DI.w (di_zip2 W.n_zip (da_cons (de_var 4) (da_cons (de_sl (de_var 4) (.yes de_int) .no) da_nil)))) (fun _ _ _ _ _ => (dg_tup2 rfl (dg_name 6 nd_shows_fewest_numbers) fun _ => (dg_name 7 nd_shows_fewest_numbers))) (fun _ _ _ _ _ p7 => dts_nil) (fun _ _ _ _ _ p7 => (de_cmp (od_lt (u64 room)) (DE.w (de_ix (DE.w (de_var 6)) (DE.w de_int))) (DE.w (de_ix (DE.w (de_var 7)) (DE.w de_int)))))))) daw_nil) (hs := by exact ⟨rfl, trivial⟩)))) ?_ ?_
  · exact db_ret de_bool rkp
  exact db_ret (de_callB (cd_all rfl) W.n_all (daw_cons (DE.w (DF.e (df_lc [("span", 9)] rfl nd_shows_fewest_numbers (DI.w (di_seq (de_var 0))) (fun _ _ _ _ _ => (dg_name 9 nd_shows_fewest_numbers)) (fun _ _ _ _ _ p8 => dts_nil) (fun _ _ _ _ _ p8 => (de_callB (cd_any rfl) W.n_any (daw_cons (DE.w (DF.e (df_lc [("point", 8)] rfl nd_shows_fewest_numbers (DI.w (di_seq (de_var 2))) (fun _ _ _ _ _ => (dg_name 8 nd_shows_fewest_numbers)) (fun _ _ _ _ _ p9 => dts_nil) (fun _ _ _ _ _ p9 => (de_chain (od_le (u64 room)) (od_le (u64 room)) (DE.w (de_ix (DE.w (de_var 9)) (DE.w de_int))) (DE.w (de_var 8)) (DE.w (de_ix (DE.w (de_var 9)) (DE.w de_int)))))))) daw_nil) (hs := by exact ⟨rfl, trivial⟩)))))) daw_nil) (hs := by exact ⟨rfl, trivial⟩)) rkp
theorem F_shows_fewest_numbers (W : Wd K mg) : CalG P w K mg base 4 "shows_fewest_numbers" (spP K g_shows_fewest_numbers) :=
  calP W.d_shows_fewest_numbers sc_shows_fewest_numbers (fun _ _ _ _ _ _ us hl => match us, hl with | [_, _], _ => rfl) (by decide) b_shows_fewest_numbers (fun ds o h => by unfold b_shows_fewest_numbers at h; split at h <;> first | rfl | cases h)
    fun f cdv A outer s H ds hl room gd => match ds, hl with | [x_spans, x_value], _ => w_shows_fewest_numbers W room gd x_spans x_value
abbrev nm_are_stays : List Str := ["value", "stay"]
theorem nd_are_stays : nm_are_stays.Nodup := by decide +kernel
theorem sc_are_stays : FnScope nm_are_stays ["value"] (defScope (top 44)) := C8.fnScope_by (by decide +kernel)
theorem w_are_stays (W : Wd K mg) {f : Addr} {cdv : Value} {A : Around} {outer : List Env} {s : Shared} {H : Hp} (room : Room 2 (A.deeper (envOfC "are_stays" (defScope (top 44)) s.heap.objs.size f cdv))) (gd : A.guards = some []) (x_value : D) :
    DB (BX P w K mg base nm_are_stays "are_stays" (defScope (top 44)) f cdv A outer s H) ⟨H, []⟩ (fun _ : Unit => [.any, .any]) GE (RKp K H) [.imm x_value, .any] (defBody (top 44)) (B_are_stays x_value) := by
  unfold B_are_stays
  refine db_ifr (DTw.t (dw_or (dt_not (dt_val (de_isi W.n_isinstance W.n_tuple (DE.w (de_var 0))))) (dw_or1 (dt_cmp (od_gt (u64 room)) (DE.w (de_callB cd_len W.n_len (daw_cons (DE.w (de_var 0)) daw_nil) (hs := by exact ⟨rfl, trivial⟩))) (DE.w (de_gint W.c_MOST_STAYS)))))) ?_ ?_
  · exact db_ret de_bool rkp
  refine db_for (P := D) (fun l2 : Unit => [.imm x_value, .any]) () rfl rfl (di_seq (de_var 0)) ⟨.inl rfl, .inr rfl, trivial⟩ (fun l2 => (dg_name 1 nd_are_stays)) (fun l2 p3 => ?_) fun l2 => ?_
  · unfold L1_are_stays
    refine db_ifr (DTw.t (dw_or (dt_not (dt_val (de_call (F_are_ints W) (room.mono (by decide : 2 ≤ 2)) gd (da_cons (de_var 1) (da_cons de_int (da_cons (de_gint W.c_MOST_TICK) da_nil))) (hs := by exact ⟨rfl, rfl, rfl, trivial⟩)))) (dw_or (dt_cmp (od_ne (u64 room)) (DE.w (de_callB cd_len W.n_len (daw_cons (DE.w (de_var 1)) daw_nil) (hs := by exact ⟨rfl, trivial⟩))) (DE.w de_int)) (dw_or1 (dt_cmp (od_ge (u64 room)) (DE.w (de_ix (DE.w (de_var 1)) (DE.w de_int))) (DE.w (de_ix (DE.w (de_var 1)) (DE.w de_int)))))))) ?_ ?_
    · exact db_ret de_bool rkp
    exact db_nil () ⟨.inl rfl, .inr rfl, trivial⟩
  exact db_ret de_bool rkp
theorem F_are_stays (W : Wd K mg) : CalG P w K mg base 3 "are_stays" (spP K g_are_stays) :=
  calP W.d_are_stays sc_are_stays (fun _ _ _ _ _ _ us hl => match us, hl with | [_], _ => rfl) (by decide) b_are_stays (fun ds o h => by unfold b_are_stays at h; split at h <;> first | rfl | cases h)
    fun f cdv A outer s H ds hl room gd => match ds, hl with | [x_value], _ => w_are_stays W room gd x_value
abbrev nm_look_at_stays : List Str := ["stays"]
theorem nd_look_at_stays : nm_look_at_stays.Nodup := by decide +kernel
theorem sc_look_at_stays : FnScope nm_look_at_stays ["stays"] (defScope (top 45)) := C8.fnScope_by (by decide +kernel)
theorem w_look_at_stays (W : Wd K mg) {f : Addr} {cdv : Value} {A : Around} {outer : List Env} {s : Shared} {H : Hp} (room : Room 3 (A.deeper (envOfC "look_at_stays" (defScope (top 45)) s.heap.objs.size f cdv))) (gd : A.guards = some []) (x_stays : D) :
    DB (BX P w K mg base nm_look_at_stays "look_at_stays" (defScope (top 45)) f cdv A outer s H) ⟨H, []⟩ (fun _ : Unit => [.any]) GE (RKp K H) [.imm x_stays] (defBody (top 45)) (B_look_at_stays x_stays) := by
  unfold B_look_at_stays
  refine db_ifr (dt_not (dt_val (de_call (F_are_stays W) (room.mono (by decide : 3 ≤ 3)) gd (da_cons (de_var 0) da_nil) (hs := by exact ⟨rfl, trivial⟩)))) ?_ ?_
  · exact db_none
  exact db_nil () ⟨.inr rfl, trivial⟩
theorem F_look_at_stays (W : Wd K mg) : CalG P w K mg base 4 "look_at_stays" (spP K g_look_at_stays) :=
  calP W.d_look_at_stays sc_look_at_stays (fun _ _ _ _ _ _ us hl => match us, hl with | [_], _ => rfl) (by decide) b_look_at_stays (fun ds o h => by unfold b_look_at_stays at h; split at h <;> first | rfl | cases h)
    fun f cdv A outer s H ds hl room gd => match ds, hl with | [x_stays], _ => w_look_at_stays W room gd x_stays
abbrev nm_told_there : List Str := ["stays", "tick", "at", "first", "last"]
theorem nd_told_there : nm_told_there.Nodup := by decide +kernel
theorem sc_told_there : FnScope nm_told_there ["stays", "tick"] (defScope (top 46)) := C8.fnScope_by (by decide +kernel)
theorem w_told_there (W : Wd K mg) {f : Addr} {cdv : Value} {A : Around} {outer : List Env} {s : Shared} {H : Hp} (room : Room 0 (A.deeper (envOfC "told_there" (defScope (top 46)) s.heap.objs.size f cdv))) (gd : A.guards = some []) (x_stays : D) (x_tick : D) :
    DB (BX P w K mg base nm_told_there "told_there" (defScope (top 46)) f cdv A outer s H) ⟨H, []⟩ (fun _ : Unit => [.any, .any, .any, .any, .any]) GE (RKf K H) [.imm x_stays, .imm x_tick, .any, .any, .any] (defBody (top 46)) (B_told_there x_stays x_tick) := by
  unfold B_told_there
  exact db_retF (df_lc [("at", 2), ("first", 3), ("last", 4)] rfl nd_told_there (DI.w (di_enum W.n_enumerate (de_var 0))) (fun _ _ _ _ _ => (dg_tup2 rfl (dg_name 2 nd_told_there) fun _ => (dg_tup2 rfl (dg_name 3 nd_told_there) fun _ => (dg_name 4 nd_told_there)))) (fun _ _ _ _ _ p1 => dts_one (dt_chain (od_le (u64 room)) (od_lt (u64 room)) (DE.w (de_var 3)) (DE.w (de_var 1)) (DE.w (de_var 4)))) (fun _ _ _ _ _ p1 => (de_var 2))) rkf
theorem F_told_there (W : Wd K mg) : CalG P w K mg base 1 "told_there" (spF K g_told_there) :=
  calF W.d_told_there sc_told_there (fun _ _ _ _ _ _ us hl => match us, hl with | [_, _], _ => rfl) (by decide) b_told_there (fun ds o h => by unfold b_told_there at h; split at h <;> first | rfl | cases h)
    fun f cdv A outer s H ds hl room gd => match ds, hl with | [x_stays, x_tick], _ => w_told_there W room gd x_stays x_tick
abbrev nm_there_at : List Str := ["stays", "tick"]
theorem nd_there_at : nm_there_at.Nodup := by decide +kernel
theorem sc_there_at : FnScope nm_there_at ["stays", "tick"] (defScope (top 47)) := C8.fnScope_by (by decide +kernel)
theorem w_there_at (W : Wd K mg) {f : Addr} {cdv : Value} {A : Around} {outer : List Env} {s : Shared} {H : Hp} (room : Room 4 (A.deeper (envOfC "there_at" (defScope (top 47)) s.heap.objs.size f cdv))) (gd : A.guards = some []) (x_stays : D) (x_tick : D) :
    DB (BX P w K mg base nm_there_at "there_at" (defScope (top 47)) f cdv A outer s H) ⟨H, []⟩ (fun _ : Unit => [.any, .any]) GE (RKp K H) [.imm x_stays, .imm x_tick] (defBody (top 47)) (B_there_at x_stays x_tick) := by
  unfold B_there_at
  refine db_expr (de_call (F_look_at_stays W) (room.mono (by decide : 4 ≤ 4)) gd (da_cons (de_var 0) da_nil) (hs := by exact ⟨rfl, trivial⟩)) ?_
  refine db_ifr (dt_not (dt_val (de_call (F_is_int W) (room.mono (by decide : 1 ≤ 4)) gd (da_cons (de_var 1) (da_cons de_int (da_cons (de_gint W.c_MOST_TICK) da_nil))) (hs := by exact ⟨rfl, rfl, rfl, trivial⟩)))) ?_ ?_
  · exact db_none
  exact db_ret (de_callT cd_tuple W.n_tuple (daw_cons (DE.w (DF.e (df_call (F_told_there W) (room.mono (by decide : 1 ≤ 4)) gd (da_cons (de_var 0) (da_cons (de_var 1) da_nil)) (hs := by exact ⟨rfl, rfl, trivial⟩)))) daw_nil) (hs := by exact ⟨rfl, trivial⟩)) rkp
theorem F_there_at (W : Wd K mg) : CalG P w K mg base 5 "there_at" (spP K g_there_at) :=
  calP W.d_there_at sc_there_at (fun _ _ _ _ _ _ us hl => match us, hl with | [_, _], _ => rfl) (by decide) b_there_at (fun ds o h => by unfold b_there_at at h; split at h <;> first | rfl | cases h)
    fun f cdv A outer s H ds hl room gd => match ds, hl with | [x_stays, x_tick], _ => w_there_at W room gd x_stays x_tick
abbrev nm_ticks_used : List Str := ["stays", "total", "free", "first", "last"]
theorem nd_ticks_used : nm_ticks_used.Nodup := by decide +kernel
theorem sc_ticks_used : FnScope nm_ticks_used ["stays"] (defScope (top 48)) := C8.fnScope_by (by decide +kernel)
theorem w_ticks_used (W : Wd K mg) {f : Addr} {cdv : Value} {A : Around} {outer : List Env} {s : Shared} {H : Hp} (room : Room 4 (A.deeper (envOfC "ticks_used" (defScope (top 48)) s.heap.objs.size f cdv))) (gd : A.guards = some []) (x_stays : D) :
    DB (BX P w K mg base nm_ticks_used "ticks_used" (defScope (top 48)) f cdv A outer s H) ⟨H, []⟩ (fun _ : Unit => [.any, .any, .any, .any, .any]) GE (RKp K H) [.imm x_stays, .any, .any, .any, .any] (defBody (top 48)) (B_ticks_used x_stays) := by
  unfold B_ticks_used
  refine db_expr (de_call (F_look_at_stays W) (room.mono (by decide : 4 ≤ 4)) gd (da_cons (de_var 0) da_nil) (hs := by exact ⟨rfl, trivial⟩)) ?_
  refine db_unp (de_tup (da_cons de_int (da_cons de_int da_nil)) (hs := by exact ⟨rfl, rfl, trivial⟩)) (dg_tup2 rfl (dg_name 1 nd_ticks_used) fun _ => (dg_name 2 nd_ticks_used)) fun v1 => ?_
  refine db_for (P := (D × D)) (fun l2 : D × D => [.imm x_stays, .imm l2.1, .imm l2.2, .any, .any]) (v1.1, v1.2) rfl rfl (di_seq (DF.e (df_callB (cf_sorted (u100 room)) W.n_sorted (daw_cons (DE.w (de_var 0)) daw_nil) (hs := by exact ⟨rfl, trivial⟩)))) ⟨.inl rfl, .inl rfl, .inl rfl, .inr rfl, .inr rfl, trivial⟩ (fun l2 => (dg_tup2 rfl (dg_name 3 nd_ticks_used) fun _ => (dg_name 4 nd_ticks_used))) (fun l2 p3 => ?_) fun l2 => ?_
  · unfold L1_ticks_used
    refine db_aug 1 nd_ticks_used ipd_add (DE.w (de_callB (cd_max rfl (u100 room)) W.n_max (daw_cons (DE.w de_int) (daw_cons (DE.w (de_op od_sub (DE.w (de_var 4)) (DE.w (de_callB (cd_max rfl (u100 room)) W.n_max (daw_cons (DE.w (de_var 3)) (daw_cons (DE.w (de_var 2)) daw_nil)) (hs := by exact ⟨rfl, rfl, trivial⟩))))) daw_nil)) (hs := by exact ⟨rfl, rfl, trivial⟩))) fun v6 => ?_
    refine db_asg 2 nd_ticks_used (de_callB (cd_max rfl (u100 room)) W.n_max (daw_cons (DE.w (de_var 2)) (daw_cons (DE.w (de_var 4)) daw_nil)) (hs := by exact ⟨rfl, rfl, trivial⟩)) fun v7 => ?_
    exact db_nil (v6, v7) ⟨.inl rfl, .inl rfl, .inl rfl, .inr rfl, .inr rfl, trivial⟩
  exact db_ret (de_var 1) rkp
theorem F_ticks_used (W : Wd K mg) : CalG P w K mg base 5 "ticks_used" (spP K g_ticks_used) :=
  calP W.d_ticks_used sc_ticks_used (fun _ _ _ _ _ _ us hl => match us, hl with | [_], _ => rfl) (by decide) b_ticks_used (fun ds o h => by unfold b_ticks_used at h; split at h <;> first | rfl | cases h)
    fun f cdv A outer s H ds hl room gd => match ds, hl with | [x_stays], _ => w_ticks_used W room gd x_stays
abbrev nm__law_pot : List Str := ["script", "place", "cell", "own", "small"]
theorem nd__law_pot : nm__law_pot.Nodup := by decide +kernel
theorem sc__law_pot : FnScope nm__law_pot ["script", "place"] (defScope (top 50)) := C8.fnScope_by (by decide +kernel)
theorem w__law_pot (W : Wd K mg) {f : Addr} {cdv : Value} {A : Around} {outer : List Env} {s : Shared} {H : Hp} (room : Room 0 (A.deeper (envOfC "_law_pot" (defScope (top 50)) s.heap.objs.size f cdv))) (gd : A.guards = some []) (x_script : D) (x_place : D) :
    DB (BX P w K mg base nm__law_pot "_law_pot" (defScope (top 50)) f cdv A outer s H) ⟨H, []⟩ (fun _ : Unit => [.any, .any, .any, .any, .any]) GE (RKf K H) [.imm x_script, .imm x_place, .any, .any, .any] (defBody (top 50)) (B__law_pot x_script x_place) := by
  unfold B__law_pot
  refine db_asg 2 nd__law_pot (de_ite (dt_cmp (od_lt (u64 room)) (DE.w (de_var 1)) (DE.w (de_callB cd_len W.n_len (daw_cons (DE.w (de_var 0)) daw_nil) (hs := by exact ⟨rfl, trivial⟩)))) (de_ix (DE.w (de_var 0)) (DE.w (de_var 1))) (de_plus (DE.w (de_plus (DE.w (de_op od_mod (DE.w (de_callT cd_int W.n_int (daw_cons (DE.w (de_callB (cd_sum rfl) W.n_sum (daw_cons (DE.w (de_sl (de_var 0) .no (.yes de_int))) daw_nil) (hs := by exact ⟨rfl, trivial⟩))) daw_nil) (hs := by exact ⟨rfl, trivial⟩))) (DE.w de_int))) (DE.w (de_op od_mul (DE.w de_int) (DE.w (de_var 1)))))) (DE.w de_int))) fun v1 => ?_
  refine db_asg 3 nd__law_pot (de_op od_mul (DE.w (de_op od_mod (DE.w (de_callT cd_int W.n_int (daw_cons (DE.w (de_callB cd_abs W.n_abs (daw_cons (DE.w (de_var 2)) daw_nil) (hs := by exact ⟨rfl, trivial⟩))) daw_nil) (hs := by exact ⟨rfl, trivial⟩))) (DE.w (de_op od_pow (DE.w (de_op od_pow (DE.w de_int) (DE.w de_int))) (DE.w de_int))))) (DE.w (de_callT cd_int W.n_int (daw_cons (DE.w (de_cmp (od_ge (u64 room)) (DE.w (de_callB cd_abs W.n_abs (daw_cons (DE.w (de_var 2)) daw_nil) (hs := by exact ⟨rfl, trivial⟩))) (DE.w (de_op od_pow (DE.w de_int) (DE.w de_int))))) daw_nil) (hs := by exact ⟨rfl, trivial⟩)))) fun v2 => ?_
  refine db_asg 4 nd__law_pot (de_op od_mod (DE.w (de_callT cd_int W.n_int (daw_cons (DE.w (de_var 2)) daw_nil) (hs := by exact ⟨rfl, trivial⟩))) (DE.w de_int)) fun v3 => ?_
  exact db_retF (df_lst (da_cons (de_var 3) (da_cons (de_op od_mod (DE.w (de_callT cd_int W.n_int (daw_cons (DE.w (de_plus (DE.w (de_plus (DE.w (de_op od_mul (DE.w (de_var 4)) (DE.w de_int))) (DE.w (de_op od_mul (DE.w (de_op od_mul (DE.w de_int) (DE.w (de_var 1)))) (DE.w (de_var 1)))))) (DE.w de_int))) daw_nil) (hs := by exact ⟨rfl, trivial⟩))) (DE.w de_int)) (da_cons de_int da_nil))) (hs := by exact ⟨rfl, rfl, rfl, trivial⟩)) rkf
theorem F__law_pot (W : Wd K mg) : CalG P w K mg base 1 "_law_pot" (spF K g__law_pot) :=
  calF W.d__law_pot sc__law_pot (fun _ _ _ _ _ _ us hl => match us, hl with | [_, _], _ => rfl) (by decide) b__law_pot (fun ds o h => by unfold b__law_pot at h; split at h <;> first | rfl | cases h)
    fun f cdv A outer s H ds hl room gd => match ds, hl with | [x_script, x_place], _ => w__law_pot W room gd x_script x_place
abbrev nm__law_take : List Str := ["pot", "upto", "digit", "prime", "blend"]
theorem nd__law_take : nm__law_take.Nodup := by decide +kernel
theorem sc__law_take : FnScope nm__law_take ["pot", "upto"] (defScope (top 51)) := C8.fnScope_by (by decide +kernel)
theorem w__law_take (W : Wd K mg) {f : Addr} {cdv : Value} {A : Around} {outer : List Env} {s : Shared} {H : Hp} {a : Addr} (room : Room 0 (A.deeper (envOfC "_law_take" (defScope (top 51)) s.heap.objs.size f cdv))) (gd : A.guards = some []) (x_pot : List D) (x_upto : D) :
    DB (BX P w K mg base nm__law_take "_law_take" (defScope (top 51)) f cdv A outer s H) ⟨H, [(0, a)]⟩ (fun qs : List D => [.own qs, .any, .any, .any, .any]) GE (RKm K H a) [.own x_pot, .imm x_upto, .any, .any, .any] (defBody (top 51)) (B__law_take x_pot x_upto) := by
  unfold B__law_take
  refine db_ifr (dt_cmp (od_gt (u64 room)) (DE.w (de_ix (dw_own 0) (DE.w de_int))) (DE.w de_int)) ?_ ?_
  · refine db_asg 2 nd__law_take (de_op od_mod (DE.w (de_callT cd_int W.n_int (daw_cons (DE.w (de_ix (dw_own 0) (DE.w de_int))) daw_nil) (hs := by exact ⟨rfl, trivial⟩))) (DE.w (de_var 1))) fun v2 => ?_
    refine db_set 0 (de_op od_fdiv (DE.w (de_ix (dw_own 0) (DE.w de_int))) (DE.w (de_var 1))) de_int fun v3 => ?_
    exact db_ret (de_var 2) (rkm rfl)
  refine db_set 0 (de_plus (DE.w (de_ix (dw_own 0) (DE.w de_int))) (DE.w de_int)) de_int fun v4 => ?_
  refine db_asg 3 nd__law_take (de_ix (DE.w (DF.e (df_lst (da_cons de_int (da_cons de_int (da_cons de_int (da_cons de_int (da_cons de_int da_nil))))) (hs := by exact ⟨rfl, rfl, rfl, rfl, rfl, trivial⟩)))) (DE.w (de_op od_mod (DE.w (de_callT cd_int W.n_int (daw_cons (DE.w (de_ix (dw_own 0) (DE.w de_int))) daw_nil) (hs := by exact ⟨rfl, trivial⟩))) (DE.w de_int)))) fun v5 => ?_
  refine db_asg 4 nd__law_take (de_op od_mod (DE.w (de_callT cd_int W.n_int (daw_cons (DE.w (de_op od_pow (DE.w (de_callT cd_int W.n_int (daw_cons (DE.w (de_plus (DE.w (de_plus (DE.w (de_ix (dw_own 0) (DE.w de_int))) (DE.w (de_op od_mul (DE.w (de_op od_mul (DE.w de_int) (DE.w (de_ix (dw_own 0) (DE.w de_int))))) (DE.w (de_ix (dw_own 0) (DE.w de_int))))))) (DE.w de_int))) daw_nil) (hs := by exact ⟨rfl, trivial⟩))) (DE.w de_int))) daw_nil) (hs := by exact ⟨rfl, trivial⟩))) (DE.w (de_var 3))) fun v6 => ?_
  refine db_asg 4 nd__law_take (de_op od_mod (DE.w (de_callT cd_int W.n_int (daw_cons (DE.w (de_op od_mul (DE.w (de_var 4)) (DE.w (de_plus (DE.w (de_op od_mod (DE.w (de_callT cd_int W.n_int (daw_cons (DE.w (de_var 4)) daw_nil) (hs := by exact ⟨rfl, trivial⟩))) (DE.w de_int))) (DE.w (de_op od_mul (DE.w de_int) (DE.w (de_ix (dw_own 0) (DE.w de_int))))))))) daw_nil) (hs := by exact ⟨rfl, trivial⟩))) (DE.w de_int)) fun v7 => ?_
  exact db_ret (de_op od_mod (DE.w (de_callT cd_int W.n_int (daw_cons (DE.w (de_op od_fdiv (DE.w (de_var 4)) (DE.w de_int))) daw_nil) (hs := by exact ⟨rfl, trivial⟩))) (DE.w (de_var 1))) (rkm rfl)
theorem F__law_take (W : Wd K mg) : CalG P w K mg base 1 "_law_take" (spM K g__law_take) :=
  calM W.d__law_take sc__law_take (fun _ _ _ _ _ _ us hl => match us, hl with | [_, _], _ => rfl) (by decide) b__law_take (fun qs ds o h => by unfold b__law_take at h; split at h <;> first | rfl | cases h)
    fun f cdv A outer s H a qs ds hl room gd => match ds, hl with | [x_upto], _ => w__law_take W room gd qs x_upto
abbrev nm__law_of : List Str := ["pot", "some"]
theorem nd__law_of : nm__law_of.Nodup := by decide +kernel
theorem sc__law_of : FnScope nm__law_of ["pot", "some"] (defScope (top 52)) := C8.fnScope_by (by decide +kernel)
theorem w__law_of (W : Wd K mg) {f : Addr} {cdv : Value} {A : Around} {outer : List Env} {s : Shared} {H : Hp} {a : Addr} (room : Room 1 (A.deeper (envOfC "_law_of" (defScope (top 52)) s.heap.objs.size f cdv))) (gd : A.guards = some []) (x_pot : List D) (x_some : D) :
    DB (BX P w K mg base nm__law_of "_law_of" (defScope (top 52)) f cdv A outer s H) ⟨H, [(0, a)]⟩ (fun qs : List D => [.own qs, .any]) GE (RKm K H a) [.own x_pot, .imm x_some] (defBody (top 52)) (B__law_of x_pot x_some) := by
  unfold B__law_of
  exact dbx_ret (G := fun p => [.own p, .imm x_some]) (t := x_pot) (dx_ix (dx_lift fun p => (de_var 1)) (dx_callM 0 (F__law_take W) (room.mono (by decide : 1 ≤ 1)) gd (dxa_cons (dx_lift fun p => (de_callB cd_len W.n_len (daw_cons (DE.w (de_var 1)) daw_nil) (hs := by exact ⟨rfl, trivial⟩))) dxa_nil) (hs := by exact ⟨rfl, rfl, trivial⟩))) fun d _ => rkm rfl d
theorem F__law_of (W : Wd K mg) : CalG P w K mg base 2 "_law_of" (spM K g__law_of) :=
  calM W.d__law_of sc__law_of (fun _ _ _ _ _ _ us hl => match us, hl with | [_, _], _ => rfl) (by decide) b__law_of (fun qs ds o h => by unfold b__law_of at h; split at h <;> first | rfl | cases h)
    fun f cdv A outer s H a qs ds hl room gd => match ds, hl with | [x_some], _ => w__law_of W room gd qs x_some
abbrev nm__law_cells : List Str := ["script", "most"]
theorem nd__law_cells : nm__law_cells.Nodup := by decide +kernel
theorem sc__law_cells : FnScope nm__law_cells ["script", "most"] (defScope (top 53)) := C8.fnScope_by (by decide +kernel)
theorem w__law_cells (W : Wd K mg) {f : Addr} {cdv : Value} {A : Around} {outer : List Env} {s : Shared} {H : Hp} (room : Room 0 (A.deeper (envOfC "_law_cells" (defScope (top 53)) s.heap.objs.size f cdv))) (gd : A.guards = some []) (x_script : D) (x_most : D) :
    DB (BX P w K mg base nm__law_cells "_law_cells" (defScope (top 53)) f cdv A outer s H) ⟨H, []⟩ (fun _ : Unit => [.any, .any]) GE (RKf K H) [.imm x_script, .imm x_most] (defBody (top 53)) (B__law_cells x_script x_most) := by
  unfold B__law_cells
  exact db_retF (df_lr1 rfl W.n_list W.n_range (de_callB (cd_max rfl (u100 room)) W.n_max (daw_cons (DE.w de_int) (daw_cons (DE.w (de_callB (cd_min rfl (u100 room)) W.n_min (daw_cons (DE.w (de_var 1)) (daw_cons (DE.w (de_callB cd_len W.n_len (daw_cons (DE.w (de_var 0)) daw_nil) (hs := by exact ⟨rfl, trivial⟩))) daw_nil)) (hs := by exact ⟨rfl, rfl, trivial⟩))) daw_nil)) (hs := by exact ⟨rfl, rfl, trivial⟩))) rkf
theorem F__law_cells (W : Wd K mg) : CalG P w K mg base 1 "_law_cells" (spF K g__law_cells) :=
  calF W.d__law_cells sc__law_cells (fun _ _ _ _ _ _ us hl => match us, hl with | [_, _], _ => rfl) (by decide) b__law_cells (fun ds o h => by unfold b__law_cells at h; split at h <;> first | rfl | cases h)
    fun f cdv A outer s H ds hl room gd => match ds, hl with | [x_script, x_most], _ => w__law_cells W room gd x_script x_most
abbrev nm__law_uses : List Str := ["box", "letters", "side", "keep", "both", "tick", "its"]
theorem nd__law_uses : nm__law_uses.Nodup := by decide +kernel
theorem sc__law_uses : FnScope nm__law_uses ["box", "letters"] (defScope (top 54)) := C8.fnScope_by (by decide +kernel)
theorem w__law_uses (W : Wd K mg) {f : Addr} {cdv : Value} {A : Around} {outer : List Env} {s : Shared} {H : Hp} (room : Room 0 (A.deeper (envOfC "_law_uses" (defScope (top 54)) s.heap.objs.size f cdv))) (gd : A.guards = some []) (x_box : D) (x_letters : D) :
    DB (BX P w K mg base nm__law_uses "_law_uses" (defScope (top 54)) f cdv A outer s H) ⟨H, []⟩ (fun _ : Unit => [.any, .any, .any, .any, .any, .any, .any]) GE (RKf K H) [.imm x_box, .imm x_letters, .any, .any, .any, .any, .any] (defBody (top 54)) (B__law_uses x_box x_letters) := by
  unfold B__law_uses
  refine db_unp (de_var 0) (dg_tup3 rfl (dg_name 2 nd__law_uses) (fun _ => (dg_name 3 nd__law_uses)) fun _ _ => (dg_name 4 nd__law_uses)) fun v1 => ?_
  exact db_retF (df_sset rfl (u100 room) W.n_sorted W.n_set (DE.w (de_plus (DE.w (DF.e (df_lst (da_cons de_int da_nil) (hs := by exact ⟨rfl, trivial⟩)))) (DE.w (DF.e (df_lc [("tick", 5), ("its", 6)] rfl nd__law_uses (DI.w (di_seq (de_var 1))) (fun _ _ _ _ _ => (dg_tup2 rfl (dg_name 5 nd__law_uses) fun _ => (dg_name 6 nd__law_uses))) (fun _ _ _ _ _ p2 => dts_one (DTw.t (dw_or (dt_val (de_var 4)) (dw_or1 (dt_cmp (od_eq (u64 room)) (DE.w (de_var 6)) (DE.w (de_var 2))))))) (fun _ _ _ _ _ p2 => (de_var 5)))))))) rkf
theorem F__law_uses (W : Wd K mg) : CalG P w K mg base 1 "_law_uses" (spF K g__law_uses) :=
  calF W.d__law_uses sc__law_uses (fun _ _ _ _ _ _ us hl => match us, hl with | [_, _], _ => rfl) (by decide) b__law_uses (fun ds o h => by unfold b__law_uses at h; split at h <;> first | rfl | cases h)
    fun f cdv A outer s H ds hl room gd => match ds, hl with | [x_box, x_letters], _ => w__law_uses W room gd x_box x_letters
abbrev nm__law_stays : List Str := ["box", "letters", "until", "found", "tick"]
theorem nd__law_stays : nm__law_stays.Nodup := by decide +kernel
theorem sc__law_stays : FnScope nm__law_stays ["box", "letters", "until"] (defScope (top 55)) := C8.fnScope_by (by decide +kernel)
theorem w__law_stays (W : Wd K mg) {f : Addr} {cdv : Value} {A : Around} {outer : List Env} {s : Shared} {H : Hp} (room : Room 1 (A.deeper (envOfC "_law_stays" (defScope (top 55)) s.heap.objs.size f cdv))) (gd : A.guards = some []) (x_box : D) (x_letters : D) (x_until : D) :
    DB (BX P w K mg base nm__law_stays "_law_stays" (defScope (top 55)) f cdv A outer s H) ⟨H, []⟩ (fun _ : Unit => [.any, .any, .any, .any, .any]) GE (RKp K H) [.imm x_box, .imm x_letters, .imm x_until, .any, .any] (defBody (top 55)) (B__law_stays x_box x_letters x_until) := by
  unfold B__law_stays
  refine db_asgF 3 nd__law_stays (df_lst da_nil (hs := by exact trivial)) fun v1 => ?_
  refine db_for (P := D) (fun l2 : List D => [.imm x_box, .imm x_letters, .imm x_until, .own l2, .any]) v1 rfl rfl (di_seq (DF.e (df_call (F__law_uses W) (room.mono (by decide : 1 ≤ 1)) gd (da_cons (de_var 0) (da_cons (de_var 1) da_nil)) (hs := by exact ⟨rfl, rfl, trivial⟩)))) ⟨.inl rfl, .inl rfl, .inl rfl, .inl rfl, .inr rfl, trivial⟩ (fun l2 => (dg_name 4 nd__law_stays)) (fun l2 p3 => ?_) fun l2 => ?_
  · unfold L1__law_stays
    refine db_if (fun n10 : List D => [.imm x_box, .imm x_letters, .imm x_until, .own n10, .imm p3]) (dt_cmp (od_lt (u64 room)) (DE.w (de_var 4)) (DE.w (de_var 2))) ?_ ?_ fun n10 => ?_
    · refine db_append 3 rfl (de_tup (da_cons (de_plus (DE.w (de_var 4)) (DE.w de_int)) (da_cons (de_plus (DE.w (de_callB (cd_min rfl (u100 room)) W.n_min (daw_cons (DE.w (de_var 2)) (daw_cons (DE.w (de_plus (DE.w (de_var 4)) (DE.w (de_ix (DE.w (de_var 0)) (DE.w de_int))))) daw_nil)) (hs := by exact ⟨rfl, rfl, trivial⟩))) (DE.w de_int)) da_nil)) (hs := by exact ⟨rfl, rfl, trivial⟩)) fun v11 => ?_
      exact db_nil v11 ⟨.inl rfl, .inl rfl, .inl rfl, .inl rfl, .inl rfl, trivial⟩
    · exact db_nil l2 ⟨.inl rfl, .inl rfl, .inl rfl, .inl rfl, .inl rfl, trivial⟩
    exact db_nil n10 ⟨.inl rfl, .inl rfl, .inl rfl, .inl rfl, .inr rfl, trivial⟩
  exact db_ret (de_callT cd_tuple W.n_tuple (daw_cons (dw_own 3) daw_nil) (hs := by exact ⟨rfl, trivial⟩)) rkp
theorem F__law_stays (W : Wd K mg) : CalG P w K mg base 2 "_law_stays" (spP K g__law_stays) :=
  calP W.d__law_stays sc__law_stays (fun _ _ _ _ _ _ us hl => match us, hl with | [_, _, _], _ => rfl) (by decide) b__law_stays (fun ds o h => by unfold b__law_stays at h; split at h <;> first | rfl | cases h)
    fun f cdv A outer s H ds hl room gd => match ds, hl with | [x_box, x_letters, x_until], _ => w__law_stays W room gd x_box x_letters x_until
abbrev nm__law_first_open : List Str := ["stays", "until", "tick"]
theorem nd__law_first_open : nm__law_first_open.Nodup := by decide +kernel
theorem sc__law_first_open : FnScope nm__law_first_open ["stays", "until"] (defScope (top 56)) := C8.fnScope_by (by decide +kernel)
theorem w__law_first_open (W : Wd K mg) {f : Addr} {cdv : Value} {A : Around} {outer : List Env} {s : Shared} {H : Hp} (room : Room 5 (A.deeper (envOfC "_law_first_open" (defScope (top 56)) s.heap.objs.size f cdv))) (gd : A.guards = some []) (x_stays : D) (x_until : D) :
    DB (BX P w K mg base nm__law_first_open "_law_first_open" (defScope (top 56)) f cdv A outer s H) ⟨H, []⟩ (fun _ : Unit => [.any, .any, .any]) GE (RKp K H) [.imm x_stays, .imm x_until, .any] (defBody (top 56)) (B__law_first_open x_stays x_until) := by
  unfold B__law_first_open
  refine db_for (P := D) (fun l1 : Unit => [.imm x_stays, .imm x_until, .any]) () rfl rfl (di_range2 W.n_range de_int (de_plus (DE.w (de_var 1)) (DE.w de_int))) ⟨.inl rfl, .inl rfl, .inr rfl, trivial⟩ (fun l1 => (dg_name 2 nd__law_first_open)) (fun l1 p2 => ?_) fun l1 => ?_
  · unfold L1__law_first_open
    refine db_ifr (dt_cmp (od_eq (u64 room)) (DE.w (de_call (F_there_at W) (room.mono (by decide : 5 ≤ 5)) gd (da_cons (de_var 0) (da_cons (de_var 2) da_nil)) (hs := by exact ⟨rfl, rfl, trivial⟩))) (DE.w (de_tup da_nil (hs := by exact trivial)))) ?_ ?_
    · exact db_ret (de_var 2) rkp
    exact db_nil () ⟨.inl rfl, .inl rfl, .inr rfl, trivial⟩
  exact db_ret de_none rkp
theorem F__law_first_open (W : Wd K mg) : CalG P w K mg base 6 "_law_first_open" (spP K g__law_first_open) :=
  calP W.d__law_first_open sc__law_first_open (fun _ _ _ _ _ _ us hl => match us, hl with | [_, _], _ => rfl) (by decide) b__law_first_open (fun ds o h => by unfold b__law_first_open at h; split at h <;> first | rfl | cases h)
    fun f cdv A outer s H ds hl room gd => match ds, hl with | [x_stays, x_until], _ => w__law_first_open W room gd x_stays x_until
abbrev nm__law_letters : List Str := ["pot", "hold", "until", "found", "tick", "lap", "side", "keep", "both"]
theorem nd__law_letters : nm__law_letters.Nodup := by decide +kernel
theorem sc__law_letters : FnScope nm__law_letters ["pot", "hold", "until"] (defScope (top 57)) := C8.fnScope_by (by decide +kernel)
theorem w__law_letters (W : Wd K mg) {f : Addr} {cdv : Value} {A : Around} {outer : List Env} {s : Shared} {H : Hp} {a : Addr} (room : Room 2 (A.deeper (envOfC "_law_letters" (defScope (top 57)) s.heap.objs.size f cdv))) (gd : A.guards = some []) (x_pot : List D) (x_hold : D) (x_until : D) :
    DB (BX P w K mg base nm__law_letters "_law_letters" (defScope (top 57)) f cdv A outer s H) ⟨H, [(0, a)]⟩ (fun qs : List D => [.own qs, .any, .any, .any, .any, .any, .any, .any, .any]) GE (RKm K H a) [.own x_pot, .imm x_hold, .imm x_until, .any, .any, .any, .any, .any, .any] (defBody (top 57)) (B__law_letters x_pot x_hold x_until) := by
  unfold B__law_letters
  refine dbx_par (T := Unit) (G := fun _ => [.own x_pot, .imm x_hold, .imm x_until, .any, .any, .any, .any, .any, .any]) (t := ()) .own .imm 3 4 rfl nd__law_letters (dxk_own (dxf_lift fun _ => (df_lst da_nil (hs := by exact trivial)))) (dxk_imm (dx_lift fun _ => de_int)) fun v1 => ?_
  refine dbx_for (P := D) (G := fun p => [.own p, .imm x_hold, .imm x_until, .own v1.1.1, .imm v1.1.2, .any, .any, .any, .any]) (t := x_pot) (fun l2 : List D × List D × D => [.own l2.1, .imm x_hold, .imm x_until, .own l2.2.1, .imm l2.2.2, .any, .any, .any, .any]) (fun p => (p, v1.1.1, v1.1.2)) rfl rfl (dxi_range1 W.n_range (dx_callM 0 (F__law_take W) (room.mono (by decide : 1 ≤ 2)) gd (dxa_cons (dx_lift fun p => de_int) dxa_nil) (hs := by exact ⟨rfl, rfl, trivial⟩))) (fun p => ⟨.inl rfl, .inl rfl, .inl rfl, .inl rfl, .inl rfl, .inr rfl, .inr rfl, .inr rfl, .inr rfl, trivial⟩) (fun l2 => (dg_name 5 nd__law_letters)) (fun l2 p3 => ?_) fun l2 => ?_
  · unfold L1__law_letters
    refine dbx_unp (G := fun p => [.own p, .imm x_hold, .imm x_until, .own l2.2.1, .imm l2.2.2, .imm p3, .any, .any, .any]) (t := l2.1) (dx_callM 0 (F__law_of W) (room.mono (by decide : 2 ≤ 2)) gd (dxa_cons (dx_lift fun p => (de_var 1)) dxa_nil) (hs := by exact ⟨rfl, rfl, trivial⟩)) (fun _ => (dg_tup3 rfl (dg_name 6 nd__law_letters) (fun _ => (dg_name 7 nd__law_letters)) fun _ _ => (dg_name 8 nd__law_letters))) fun v10 => ?_
    refine dbx_asg (G := fun p => [.own p, .imm x_hold, .imm x_until, .own l2.2.1, .imm l2.2.2, .imm p3, .imm v10.1.1, .imm v10.1.2.1, .imm v10.1.2.2]) (t := v10.2) .imm 4 nd__law_letters (dxk_imm (dx_plus (dx_lift fun p => (de_var 4)) (dx_callB (cd_max rfl (u100 room)) W.n_max (dxa_cons (dx_lift fun p => de_int) (dxa_cons (dx_callM 0 (F__law_of W) (room.mono (by decide : 2 ≤ 2)) gd (dxa_cons (dx_lift fun p => (de_tup (da_cons de_int (da_cons (de_op od_fdiv (DE.w (de_var 7)) (DE.w de_int)) (da_cons (de_var 7) (da_cons (de_plus (DE.w (de_var 7)) (DE.w de_int)) da_nil)))) (hs := by exact ⟨rfl, rfl, rfl, rfl, trivial⟩))) dxa_nil) (hs := by exact ⟨rfl, rfl, trivial⟩)) dxa_nil)) (hs := by exact ⟨rfl, rfl, trivial⟩)))) fun v11 => ?_
    refine db_if (fun n14 : List D × List D => [.own n14.1, .imm x_hold, .imm x_until, .own n14.2, .imm v11.1, .imm p3, .imm v10.1.1, .imm v10.1.2.1, .imm v10.1.2.2]) (dt_cmp (od_le (u64 room)) (DE.w (de_var 4)) (DE.w (de_var 2))) ?_ ?_ fun n14 => ?_
    · refine dbx_append (G := fun p => [.own p, .imm x_hold, .imm x_until, .own l2.2.1, .imm v11.1, .imm p3, .imm v10.1.1, .imm v10.1.2.1, .imm v10.1.2.2]) (t := v11.2) (fun _ => l2.2.1) 3 (dx_tup (dxa_cons (dx_lift fun p => (de_var 4)) (dxa_cons (dx_ite (dxt_cmp (od_eq (u64 room)) (dx_callM 0 (F__law_take W) (room.mono (by decide : 1 ≤ 2)) gd (dxa_cons (dx_lift fun p => de_int) dxa_nil) (hs := by exact ⟨rfl, rfl, trivial⟩)) (dx_lift fun p => de_int)) (dx_callT cd_int W.n_int (dxa_cons (dx_callM 0 (F__law_take W) (room.mono (by decide : 1 ≤ 2)) gd (dxa_cons (dx_lift fun p => de_int) dxa_nil) (hs := by exact ⟨rfl, rfl, trivial⟩)) dxa_nil) (hs := by exact ⟨rfl, trivial⟩)) (dx_lift fun p => (de_var 6))) dxa_nil)) (hs := by exact ⟨rfl, rfl, trivial⟩)) (fun _ => rfl) fun v15 => ?_
      exact db_nil (v15.2, v15.1) ⟨.inl rfl, .inl rfl, .inl rfl, .inl rfl, .inl rfl, .inl rfl, .inl rfl, .inl rfl, .inl rfl, trivial⟩
    · exact db_nil (v11.2, l2.2.1) ⟨.inl rfl, .inl rfl, .inl rfl, .inl rfl, .inl rfl, .inl rfl, .inl rfl, .inl rfl, .inl rfl, trivial⟩
    exact db_nil (n14.1, n14.2, v11.1) ⟨.inl rfl, .inl rfl, .inl rfl, .inl rfl, .inl rfl, .inr rfl, .inr rfl, .inr rfl, .inr rfl, trivial⟩
  exact db_ret (de_callT cd_tuple W.n_tuple (daw_cons (dw_own 3) daw_nil) (hs := by exact ⟨rfl, trivial⟩)) (rkm rfl)
theorem F__law_letters (W : Wd K mg) : CalG P w K mg base 3 "_law_letters" (spM K g__law_letters) :=
  calM W.d__law_letters sc__law_letters (fun _ _ _ _ _ _ us hl => match us, hl with | [_, _, _], _ => rfl) (by decide) b__law_letters (fun qs ds o h => by unfold b__law_letters at h; split at h <;> first | rfl | cases h)
    fun f cdv A outer s H a qs ds hl room gd => match ds, hl with | [x_hold, x_until], _ => w__law_letters W room gd qs x_hold x_until
abbrev nm__law_are_boxes_right : List Str := ["hold", "letters", "until", "losses", "at", "box", "stays", "loss", "uses", "last", "tick", "later"]
theorem nd__law_are_boxes_right : nm__law_are_boxes_right.Nodup := by decide +kernel
theorem sc__law_are_boxes_right : FnScope nm__law_are_boxes_right ["hold", "letters", "until"] (defScope (top 58)) := C8.fnScope_by (by decide +kernel)
theorem w__law_are_boxes_right (W : Wd K mg) {f : Addr} {cdv : Value} {A : Around} {outer : List Env} {s : Shared} {H : Hp} (room : Room 6 (A.deeper (envOfC "_law_are_boxes_right" (defScope (top 58)) s.heap.objs.size f cdv))) (gd : A.guards = some []) (x_hold : D) (x_letters : D) (x_until : D) :
    DB (BX P w K mg base nm__law_are_boxes_right "_law_are_boxes_right" (defScope (top 58)) f cdv A outer s H) ⟨H, []⟩ (fun _ : Unit => [.any, .any, .any, .any, .any, .any, .any, .any, .any, .any, .any, .any]) GE (RKp K H) [.imm x_hold, .imm x_letters, .imm x_until, .any, .any, .any, .any, .any, .any, .any, .any, .any] (defBody (top 58)) (B__law_are_boxes_right x_hold x_letters x_until) := by
  unfold B__law_are_boxes_right
  refine db_asgF 3 nd__law_are_boxes_right (df_lst da_nil (hs := by exact trivial)) fun v1 => ?_
  refine db_for (P := (D × D)) (fun l2 : List D => [.imm x_hold, .imm x_letters, .imm x_until, .own l2, .any, .any, .any, .any, .any, .any, .any, .any]) v1 rfl rfl (di_enum W.n_enumerate (de_var 0)) ⟨.inl rfl, .inl rfl, .inl rfl, .inl rfl, .inr rfl, .inr rfl, .inr rfl, .inr rfl, .inr rfl, .inr rfl, .inr rfl, .inr rfl, trivial⟩ (fun l2 => (dg_tup2 rfl (dg_name 4 nd__law_are_boxes_right) fun _ => (dg_name 5 nd__law_are_boxes_right))) (fun l2 p3 => ?_) fun l2 => ?_
  · unfold L1__law_are_boxes_right
    refine db_asg 6 nd__law_are_boxes_right (de_call (F__law_stays W) (room.mono (by decide : 2 ≤ 6)) gd (da_cons (de_var 5) (da_cons (de_var 1) (da_cons (de_var 2) da_nil))) (hs := by exact ⟨rfl, rfl, rfl, trivial⟩)) fun v24 => ?_
    refine db_asg 7 nd__law_are_boxes_right (de_call (F__law_first_open W) (room.mono (by decide : 6 ≤ 6)) gd (da_cons (de_var 6) (da_cons (de_var 2) da_nil)) (hs := by exact ⟨rfl, rfl, trivial⟩)) fun v25 => ?_
    refine db_ifr (dt_cmp (od_ne (u64 room)) (DE.w (de_cmp (od_eq (u64 room)) (DE.w (de_call (F_ticks_used W) (room.mono (by decide : 5 ≤ 6)) gd (da_cons (de_var 6) da_nil) (hs := by exact ⟨rfl, trivial⟩))) (DE.w (de_var 2)))) (DE.w (de_cmp od_is (DE.w (de_var 7)) (DE.w de_none)))) ?_ ?_
    · exact db_ret de_bool rkp
    refine db_ifr (DTw.t (dw_or (dt_cmp (od_ne (u64 room)) (DE.w (de_callB (cd_repr gd (u100 room)) W.n_repr (daw_cons (DE.w (de_call (F_first_loss W) (room.mono (by decide : 5 ≤ 6)) gd (da_cons (de_tup (da_cons (de_var 5) da_nil) (hs := by exact ⟨rfl, trivial⟩)) (da_cons (de_var 1) (da_cons (de_var 2) da_nil))) (hs := by exact ⟨rfl, rfl, rfl, trivial⟩))) daw_nil) (hs := by exact ⟨rfl, trivial⟩))) (DE.w (de_callB (cd_repr gd (u100 room)) W.n_repr (daw_cons (DE.w (de_var 7)) daw_nil) (hs := by exact ⟨rfl, trivial⟩)))) (dw_or1 (dt_cmp (od_ne (u64 room)) (DE.w (de_cmp (od_eq (u64 room)) (DE.w (de_call (F_held W) (room.mono (by decide : 5 ≤ 6)) gd (da_cons (de_tup (da_cons (de_var 5) da_nil) (hs := by exact ⟨rfl, trivial⟩)) (da_cons (de_var 1) (da_cons (de_var 2) da_nil))) (hs := by exact ⟨rfl, rfl, rfl, trivial⟩))) (DE.w (de_tup (da_cons de_str da_nil) (hs := by exact ⟨rfl, trivial⟩))))) (DE.w (de_cmp od_is (DE.w (de_var 7)) (DE.w de_none))))))) ?_ ?_
    · exact db_ret de_bool rkp
    refine db_if (fun n36 : List D => [.imm x_hold, .imm x_letters, .imm x_until, .own n36, .imm p3.1, .imm p3.2, .imm v24, .imm v25, .any, .any, .any, .any]) (dt_cmp od_isnot (DE.w (de_var 7)) (DE.w de_none)) ?_ ?_ fun n36 => ?_
    · refine db_append 3 rfl (de_var 7) fun v37 => ?_
      refine db_asg 8 nd__law_are_boxes_right (DF.e (df_call (F__law_uses W) (room.mono (by decide : 1 ≤ 6)) gd (da_cons (de_var 5) (da_cons (de_var 1) da_nil)) (hs := by exact ⟨rfl, rfl, trivial⟩))) fun v38 => ?_
      refine db_asg 9 nd__law_are_boxes_right (de_ix (DE.w (DF.e (df_lc [("tick", 10)] rfl nd__law_are_boxes_right (DI.w (di_seq (de_var 8))) (fun _ _ _ _ _ => (dg_name 10 nd__law_are_boxes_right)) (fun _ _ _ _ _ p40 => dts_one (dt_cmp (od_lt (u64 room)) (DE.w (de_var 10)) (DE.w (de_var 7)))) (fun _ _ _ _ _ p40 => (de_var 10))))) (DE.w (de_un ud_neg de_int))) fun v39 => ?_
      refine db_asg 11 nd__law_are_boxes_right (de_callB (cd_min rfl (u100 room)) W.n_min (daw_cons (DE.w (de_plus (DE.w (DF.e (df_lc [("tick", 10)] rfl nd__law_are_boxes_right (DI.w (di_seq (de_var 8))) (fun _ _ _ _ _ => (dg_name 10 nd__law_are_boxes_right)) (fun _ _ _ _ _ p42 => dts_one (dt_cmp (od_ge (u64 room)) (DE.w (de_var 10)) (DE.w (de_var 7)))) (fun _ _ _ _ _ p42 => (de_var 10))))) (DE.w (DF.e (df_lst (da_cons (de_var 2) da_nil) (hs := by exact ⟨rfl, trivial⟩)))))) daw_nil) (hs := by exact ⟨rfl, trivial⟩)) fun v41 => ?_
      refine db_ifr (DTw.t (dw_or (dt_cmp (od_ne (u64 room)) (DE.w (de_plus (DE.w (de_plus (DE.w (de_var 9)) (DE.w (de_ix (DE.w (de_var 5)) (DE.w de_int))))) (DE.w de_int))) (DE.w (de_var 7))) (dw_or1 (dt_cmp od_isnot (DE.w (de_call (F_shows_held W) (room.mono (by decide : 5 ≤ 6)) gd (da_cons (de_var 0) (da_cons (de_var 1) (da_cons (de_var 2) (da_cons (de_tup (da_cons de_str (da_cons (de_var 4) (da_cons (de_var 9) (da_cons (de_var 11) da_nil)))) (hs := by exact ⟨rfl, rfl, rfl, rfl, trivial⟩)) da_nil)))) (hs := by exact ⟨rfl, rfl, rfl, rfl, trivial⟩))) (DE.w de_bool))))) ?_ ?_
      · exact db_ret de_bool rkp
      exact db_nil v37 ⟨.inl rfl, .inl rfl, .inl rfl, .inl rfl, .inl rfl, .inl rfl, .inl rfl, .inl rfl, .inr rfl, .inr rfl, .inr rfl, .inr rfl, trivial⟩
    · exact db_nil l2 ⟨.inl rfl, .inl rfl, .inl rfl, .inl rfl, .inl rfl, .inl rfl, .inl rfl, .inl rfl, .inr rfl, .inr rfl, .inr rfl, .inr rfl, trivial⟩
    exact db_nil n36 ⟨.inl rfl, .inl rfl, .inl rfl, .inl rfl, .inr rfl, .inr rfl, .inr rfl, .inr rfl, .inr rfl, .inr rfl, .inr rfl, .inr rfl, trivial⟩
  exact db_ret (de_cmp (od_eq (u64 room)) (DE.w (de_callB (cd_repr gd (u100 room)) W.n_repr (daw_cons (DE.w (de_call (F_first_loss W) (room.mono (by decide : 5 ≤ 6)) gd (da_cons (de_var 0) (da_cons (de_var 1) (da_cons (de_var 2) da_nil))) (hs := by exact ⟨rfl, rfl, rfl, trivial⟩))) daw_nil) (hs := by exact ⟨rfl, trivial⟩))) (DE.w (de_callB (cd_repr gd (u100 room)) W.n_repr (daw_cons (DE.w (de_ite (dt_cmp (od_ne (u64 room)) (dw_own 3) (DE.w (DF.e (df_lst da_nil (hs := by exact trivial))))) (de_callB (cd_min rfl (u100 room)) W.n_min (daw_cons (dw_own 3) daw_nil) (hs := by exact ⟨rfl, trivial⟩)) de_none)) daw_nil) (hs := by exact ⟨rfl, trivial⟩)))) rkp
theorem F__law_are_boxes_right (W : Wd K mg) : CalG P w K mg base 7 "_law_are_boxes_right" (spP K g__law_are_boxes_right) :=
  calP W.d__law_are_boxes_right sc__law_are_boxes_right (fun _ _ _ _ _ _ us hl => match us, hl with | [_, _, _], _ => rfl) (by decide) b__law_are_boxes_right (fun ds o h => by unfold b__law_are_boxes_right at h; split at h <;> first | rfl | cases h)
    fun f cdv A outer s H ds hl room gd => match ds, hl with | [x_hold, x_letters, x_until], _ => w__law_are_boxes_right W room gd x_hold x_letters x_until
abbrev nm__law_is_few_right : List Str := ["side", "keep", "both", "until", "hold", "spans", "first", "told", "numbers", "lone", "letters", "number", "tick", "its"]
theorem nd__law_is_few_right : nm__law_is_few_right.Nodup := by decide +kernel
theorem sc__law_is_few_right : FnScope nm__law_is_few_right ["side", "keep", "both", "until"] (defScope (top 59)) := C8.fnScope_by (by decide +kernel)
theorem w__law_is_few_right (W : Wd K mg) {f : Addr} {cdv : Value} {A : Around} {outer : List Env} {s : Shared} {H : Hp} (room : Room 4 (A.deeper (envOfC "_law_is_few_right" (defScope (top 59)) s.heap.objs.size f cdv))) (gd : A.guards = some []) (x_side : D) (x_keep : D) (x_both : D) (x_until : D) :
    DB (BX P w K mg base nm__law_is_few_right "_law_is_few_right" (defScope (top 59)) f cdv A outer s H) ⟨H, []⟩ (fun _ : Unit => [.any, .any, .any, .any, .any, .any, .any, .any, .any, .any, .any, .any, .any, .any]) GE (RKp K H) [.imm x_side, .imm x_keep, .imm x_both, .imm x_until, .any, .any, .any, .any, .any, .any, .any, .any, .any, .any] (defBody (top 59)) (B__law_is_few_right x_side x_keep x_both x_until) := by
  unfold B__law_is_few_right
  refine db_asg 4 nd__law_is_few_right (de_tup (da_cons (de_tup (da_cons (de_var 0) (da_cons (de_var 1) (da_cons (de_var 2) da_nil))) (hs := by exact ⟨rfl, rfl, rfl, trivial⟩)) da_nil) (hs := by exact ⟨rfl, trivial⟩)) fun v1 => ?_
  refine db_asg 5 nd__law_is_few_right (de_callT cd_tuple W.n_tuple (daw_cons (DE.w (DF.e (df_lc [("first", 6)] rfl nd__law_is_few_right (DI.w (di_range2 W.n_range de_int (de_plus (DE.w (de_op od_sub (DE.w (de_var 3)) (DE.w (de_var 1)))) (DE.w de_int)))) (fun _ _ _ _ _ => (dg_name 6 nd__law_is_few_right)) (fun _ _ _ _ _ p3 => dts_nil) (fun _ _ _ _ _ p3 => (de_tup (da_cons (de_var 6) (da_cons (de_op od_sub (DE.w (de_plus (DE.w (de_var 6)) (DE.w (de_var 1)))) (DE.w de_int)) da_nil)) (hs := by exact ⟨rfl, rfl, trivial⟩)))))) daw_nil) (hs := by exact ⟨rfl, trivial⟩)) fun v2 => ?_
  refine db_asg 7 nd__law_is_few_right (de_call (F_fewest_letters W) (room.mono (by decide : 4 ≤ 4)) gd (da_cons (de_var 4) (da_cons (de_var 3) da_nil)) (hs := by exact ⟨rfl, rfl, trivial⟩)) fun v4 => ?_
  refine db_ifr (dt_cmp (od_eq (u64 room)) (DE.w (de_var 5)) (DE.w (de_tup da_nil (hs := by exact trivial)))) ?_ ?_
  · exact db_ret (de_cmp (od_eq (u64 room)) (DE.w (de_var 7)) (DE.w (de_tup da_nil (hs := by exact trivial)))) rkp
  refine db_unp (de_call (F_fewest_numbers W) (room.mono (by decide : 4 ≤ 4)) gd (da_cons (de_var 5) da_nil) (hs := by exact ⟨rfl, trivial⟩)) (dg_tup2 rfl (dg_name 8 nd__law_is_few_right) fun _ => (dg_name 9 nd__law_is_few_right)) fun v6 => ?_
  refine db_ifr (dt_cmp (od_ne (u64 room)) (DE.w (de_callB cd_len W.n_len (daw_cons (DE.w (de_var 8)) daw_nil) (hs := by exact ⟨rfl, trivial⟩))) (DE.w (de_callB cd_len W.n_len (daw_cons (DE.w (de_var 7)) daw_nil) (hs := by exact ⟨rfl, trivial⟩)))) ?_ ?_
  · exact db_ret de_bool rkp
  refine db_asg 10 nd__law_is_few_right (de_callT cd_tuple W.n_tuple (daw_cons (DE.w (DF.e (df_callB (cf_sorted (u100 room)) W.n_sorted (daw_cons (DE.w (DF.e (df_lc [("number", 11)] rfl nd__law_is_few_right (DI.w (di_seq (de_var 8))) (fun _ _ _ _ _ => (dg_name 11 nd__law_is_few_right)) (fun _ _ _ _ _ p9 => dts_nil) (fun _ _ _ _ _ p9 => (de_tup (da_cons (de_var 11) (da_cons (de_var 0) da_nil)) (hs := by exact ⟨rfl, rfl, trivial⟩)))))) daw_nil) (hs := by exact ⟨rfl, trivial⟩)))) daw_nil) (hs := by exact ⟨rfl, trivial⟩)) fun v8 => ?_
  refine db_ifr (dt_cmp od_isnot (DE.w (de_call (F_shows_fewest_letters W) (room.mono (by decide : 4 ≤ 4)) gd (da_cons (de_var 4) (da_cons (de_var 3) (da_cons (de_var 10) da_nil))) (hs := by exact ⟨rfl, rfl, rfl, trivial⟩))) (DE.w de_bool)) ?_ ?_
  · exact db_ret de_bool rkp
  exact db_ret (de_cmp od_is (DE.w (de_call (F_shows_fewest_numbers W) (room.mono (by decide : 4 ≤ 4)) gd (da_cons (de_var 5) (da_cons (de_tup (da_cons (de_callT cd_tuple W.n_tuple (daw_cons (DE.w (DF.e (df_lc [("tick", 12), ("its", 13)] rfl nd__law_is_few_right (DI.w (di_seq (de_var 7))) (fun _ _ _ _ _ => (dg_tup2 rfl (dg_name 12 nd__law_is_few_right) fun _ => (dg_name 13 nd__law_is_few_right))) (fun _ _ _ _ _ p11 => dts_nil) (fun _ _ _ _ _ p11 => (de_var 12))))) daw_nil) (hs := by exact ⟨rfl, trivial⟩)) (da_cons (de_var 9) da_nil)) (hs := by exact ⟨rfl, rfl, trivial⟩)) da_nil)) (hs := by exact ⟨rfl, rfl, trivial⟩))) (DE.w de_bool)) rkp
theorem F__law_is_few_right (W : Wd K mg) : CalG P w K mg base 5 "_law_is_few_right" (spP K g__law_is_few_right) :=
  calP W.d__law_is_few_right sc__law_is_few_right (fun _ _ _ _ _ _ us hl => match us, hl with | [_, _, _, _], _ => rfl) (by decide) b__law_is_few_right (fun ds o h => by unfold b__law_is_few_right at h; split at h <;> first | rfl | cases h)
    fun f cdv A outer s H ds hl room gd => match ds, hl with | [x_side, x_keep, x_both, x_until], _ => w__law_is_few_right W room gd x_side x_keep x_both x_until
abbrev nm__law_right : List Str := ["pot", "hold", "until", "lap", "side", "keep", "both"]
theorem nd__law_right : nm__law_right.Nodup := by decide +kernel
theorem sc__law_right : FnScope nm__law_right ["pot"] (defScope (top 60)) := C8.fnScope_by (by decide +kernel)
theorem w__law_right (W : Wd K mg) {f : Addr} {cdv : Value} {A : Around} {outer : List Env} {s : Shared} {H : Hp} {a : Addr} (room : Room 7 (A.deeper (envOfC "_law_right" (defScope (top 60)) s.heap.objs.size f cdv))) (gd : A.guards = some []) (x_pot : List D) :
    DB (BX P w K mg base nm__law_right "_law_right" (defScope (top 60)) f cdv A outer s H) ⟨H, [(0, a)]⟩ (fun qs : List D => [.own qs, .any, .any, .any, .any, .any, .any]) GE (RKm K H a) [.own x_pot, .any, .any, .any, .any, .any, .any] (defBody (top 60)) (B__law_right x_pot) := by
  unfold B__law_right
  refine dbx_par (G := fun p => [.own p, .any, .any, .any, .any, .any, .any]) (t := x_pot) .own .imm 1 2 rfl nd__law_right (dxk_own (dxf_lift fun p => (df_lst da_nil (hs := by exact trivial)))) (dxk_imm (dx_callT cd_int W.n_int (dxa_cons (dx_callM 0 (F__law_take W) (room.mono (by decide : 1 ≤ 7)) gd (dxa_cons (dx_callM 0 (F__law_of W) (room.mono (by decide : 2 ≤ 7)) gd (dxa_cons (dx_lift fun p => (de_tup (da_cons de_int (da_cons de_int da_nil)) (hs := by exact ⟨rfl, rfl, trivial⟩))) dxa_nil) (hs := by exact ⟨rfl, rfl, trivial⟩)) dxa_nil) (hs := by exact ⟨rfl, rfl, trivial⟩)) dxa_nil) (hs := by exact ⟨rfl, trivial⟩))) fun v1 => ?_
  refine dbx_for (P := D) (G := fun p => [.own p, .own v1.1.1, .imm v1.1.2, .any, .any, .any, .any]) (t := v1.2) (fun l2 : List D × List D => [.own l2.1, .own l2.2, .imm v1.1.2, .any, .any, .any, .any]) (fun p => (p, v1.1.1)) rfl rfl (dxi_range1 W.n_range (dx_plus (dx_lift fun p => de_int) (dx_callM 0 (F__law_take W) (room.mono (by decide : 1 ≤ 7)) gd (dxa_cons (dx_lift fun p => de_int) dxa_nil) (hs := by exact ⟨rfl, rfl, trivial⟩)))) (fun p => ⟨.inl rfl, .inl rfl, .inl rfl, .inr rfl, .inr rfl, .inr rfl, .inr rfl, trivial⟩) (fun l2 => (dg_name 3 nd__law_right)) (fun l2 p3 => ?_) fun l2 => ?_
  · unfold L1__law_right
    refine dbx_append (G := fun p => [.own p, .own l2.2, .imm v1.1.2, .imm p3, .any, .any, .any]) (t := l2.1) (fun _ => l2.2) 1 (dx_tup (dxa_cons (dx_callT cd_int W.n_int (dxa_cons (dx_callM 0 (F__law_take W) (room.mono (by decide : 1 ≤ 7)) gd (dxa_cons (dx_lift fun p => de_int) dxa_nil) (hs := by exact ⟨rfl, rfl, trivial⟩)) dxa_nil) (hs := by exact ⟨rfl, trivial⟩)) (dxa_cons (dx_plus (dx_lift fun p => de_int) (dx_callT cd_int W.n_int (dxa_cons (dx_callM 0 (F__law_take W) (room.mono (by decide : 1 ≤ 7)) gd (dxa_cons (dx_callM 0 (F__law_of W) (room.mono (by decide : 2 ≤ 7)) gd (dxa_cons (dx_lift fun p => (de_tup (da_cons de_int (da_cons de_int da_nil)) (hs := by exact ⟨rfl, rfl, trivial⟩))) dxa_nil) (hs := by exact ⟨rfl, rfl, trivial⟩)) dxa_nil) (hs := by exact ⟨rfl, rfl, trivial⟩)) dxa_nil) (hs := by exact ⟨rfl, trivial⟩))) (dxa_cons (dx_cmp (od_eq (u64 room)) (dx_callM 0 (F__law_take W) (room.mono (by decide : 1 ≤ 7)) gd (dxa_cons (dx_lift fun p => de_int) dxa_nil) (hs := by exact ⟨rfl, rfl, trivial⟩)) (dx_lift fun p => de_int)) dxa_nil))) (hs := by exact ⟨rfl, rfl, rfl, trivial⟩)) (fun _ => rfl) fun v5 => ?_
    exact db_nil (v5.2, v5.1) ⟨.inl rfl, .inl rfl, .inl rfl, .inr rfl, .inr rfl, .inr rfl, .inr rfl, trivial⟩
  refine db_asg 1 nd__law_right (de_callT cd_tuple W.n_tuple (daw_cons (dw_own 1) daw_nil) (hs := by exact ⟨rfl, trivial⟩)) fun v6 => ?_
  refine dbx_ifr (G := fun p => [.own p, .imm v6, .imm v1.1.2, .any, .any, .any, .any]) (t := l2.1) (dxt_not (dxt_val (dx_call (F__law_are_boxes_right W) (room.mono (by decide : 7 ≤ 7)) gd (dxa_cons (dx_lift fun p => (de_var 1)) (dxa_cons (dx_callM 0 (F__law_letters W) (room.mono (by decide : 3 ≤ 7)) gd (dxa_cons (dx_lift fun p => (de_var 1)) (dxa_cons (dx_lift fun p => (de_var 2)) dxa_nil)) (hs := by exact ⟨rfl, rfl, rfl, trivial⟩)) (dxa_cons (dx_lift fun p => (de_var 2)) dxa_nil))) (hs := by exact ⟨rfl, rfl, rfl, trivial⟩)))) (fun q7 => ?_) fun q7 => ?_
  · exact db_ret de_bool (rkm rfl)
  refine dbx_unp (G := fun p => [.own p, .imm v6, .imm v1.1.2, .any, .any, .any, .any]) (t := q7.2) (dx_callM 0 (F__law_of W) (room.mono (by decide : 2 ≤ 7)) gd (dxa_cons (dx_lift fun p => (de_var 1)) dxa_nil) (hs := by exact ⟨rfl, rfl, trivial⟩)) (fun _ => (dg_tup3 rfl (dg_name 4 nd__law_right) (fun _ => (dg_name 5 nd__law_right)) fun _ _ => (dg_name 6 nd__law_right))) fun v8 => ?_
  exact db_ret (de_and (de_call (F__law_is_few_right W) (room.mono (by decide : 5 ≤ 7)) gd (da_cons (de_var 4) (da_cons (de_var 5) (da_cons (de_var 6) (da_cons (de_var 2) da_nil)))) (hs := by exact ⟨rfl, rfl, rfl, rfl, trivial⟩)) (de_one (de_call (F__law_is_few_right W) (room.mono (by decide : 5 ≤ 7)) gd (da_cons (de_op od_sub (DE.w de_int) (DE.w (de_var 4))) (da_cons (de_plus (DE.w (de_var 5)) (DE.w de_int)) (da_cons (de_not (de_var 6)) (da_cons (de_var 2) da_nil)))) (hs := by exact ⟨rfl, rfl, rfl, rfl, trivial⟩)))) (rkm rfl)
theorem F__law_right (W : Wd K mg) : CalG P w K mg base 8 "_law_right" (spM K g__law_right) :=
  calM W.d__law_right sc__law_right (fun _ _ _ _ _ _ us hl => match us, hl with | [_], _ => rfl) (by decide) b__law_right (fun qs ds o h => by unfold b__law_right at h; split at h <;> first | rfl | cases h)
    fun f cdv A outer s H a qs ds hl room gd => match ds, hl with | [], _ => w__law_right W room gd qs 
abbrev nm_law : List Str := ["script", "place"]
theorem nd_law : nm_law.Nodup := by decide +kernel
theorem sc_law : FnScope nm_law ["script"] (defScope (top 61)) := C8.fnScope_by (by decide +kernel)
theorem w_law (W : Wd K mg) {f : Addr} {cdv : Value} {A : Around} {outer : List Env} {s : Shared} {H : Hp} (room : Room 8 (A.deeper (envOfC "law" (defScope (top 61)) s.heap.objs.size f cdv))) (gd : A.guards = some []) (x_script : D) :
    DB (BX P w K mg base nm_law "law" (defScope (top 61)) f cdv A outer s H) ⟨H, []⟩ (fun _ : Unit => [.any, .any]) GE (RKp K H) [.imm x_script, .any] (defBody (top 61)) (B_law x_script) := by
  unfold B_law
  exact db_ret (de_callB (cd_all rfl) W.n_all (daw_cons (DE.w (DF.e (df_lc [("place", 1)] rfl nd_law (DI.w (di_seq (DF.e (df_call (F__law_cells W) (room.mono (by decide : 1 ≤ 8)) gd (da_cons (de_var 0) (da_cons de_int da_nil)) (hs := by exact ⟨rfl, rfl, trivial⟩))))) (fun _ _ _ _ _ => (dg_name 1 nd_law)) (fun _ _ _ _ _ p1 => dts_nil) (fun _ _ _ _ _ p1 => (de_callN (F__law_right W) (room.mono (by decide : 8 ≤ 8)) gd (df_call (F__law_pot W) (room.mono (by decide : 1 ≤ 8)) gd (da_cons (de_var 0) (da_cons (de_var 1) da_nil)) (hs := by exact ⟨rfl, rfl, trivial⟩)) da_nil (hs := by exact ⟨rfl, trivial⟩)))))) daw_nil) (hs := by exact ⟨rfl, trivial⟩)) rkp
theorem F_law (W : Wd K mg) : CalG P w K mg base 9 "law" (spP K g_law) :=
  calP W.d_law sc_law (fun _ _ _ _ _ _ us hl => match us, hl with | [_], _ => rfl) (by decide) b_law (fun ds o h => by unfold b_law at h; split at h <;> first | rfl | cases h)
    fun f cdv A outer s H ds hl room gd => match ds, hl with | [x_script], _ => w_law W room gd x_script
end
end DL

set_option Elab.async false
set_option linter.all false
set_option maxRecDepth 100000
set_option maxHeartbeats 0
set_option autoImplicit false
namespace DL
open PySem PySem.Spec PyProof.Rows L2
def d_is_int : He.DefD := ⟨("is_int", none), "is_int", "is_int", defArgs (top 8), defBody (top 8), defScope (top 8), [], []⟩
def d_are_ints : He.DefD := ⟨("are_ints", none), "are_ints", "are_ints", defArgs (top 9), defBody (top 9), defScope (top 9), [], []⟩
def d_is_told : He.DefD := ⟨("is_told", none), "is_told", "is_told", defArgs (top 10), defBody (top 10), defScope (top 10), [], []⟩
def d_is_hold : He.DefD := ⟨("is_hold", none), "is_hold", "is_hold", defArgs (top 19), defBody (top 19), defScope (top 19), [], []⟩
def d_look_at_hold : He.DefD := ⟨("look_at_hold", none), "look_at_hold", "look_at_hold", defArgs (top 20), defBody (top 20), defScope (top 20), [], []⟩
def d_are_letters : He.DefD := ⟨("are_letters", none), "are_letters", "are_letters", defArgs (top 21), defBody (top 21), defScope (top 21), [], []⟩
def d_look_at_letters : He.DefD := ⟨("look_at_letters", none), "look_at_letters", "look_at_letters", defArgs (top 22), defBody (top 22), defScope (top 22), [], []⟩
def d_told_ticks : He.DefD := ⟨("told_ticks", none), "told_ticks", "told_ticks", defArgs (top 23), defBody (top 23), defScope (top 23), [], []⟩
def d_told_loss : He.DefD := ⟨("told_loss", none), "told_loss", "told_loss", defArgs (top 24), defBody (top 24), defScope (top 24), [], []⟩
def d_held : He.DefD := ⟨("held", none), "held", "held", defArgs (top 25), defBody (top 25), defScope (top 25), [], []⟩
def d_shows_held : He.DefD := ⟨("shows_held", none), "shows_held", "shows_held", defArgs (top 26), defBody (top 26), defScope (top 26), [], []⟩
def d_first_loss : He.DefD := ⟨("first_loss", none), "first_loss", "first_loss", defArgs (top 27), defBody (top 27), defScope (top 27), [], []⟩
def d_told_keeps : He.DefD := ⟨("told_keeps", none), "told_keeps", "told_keeps", defArgs (top 28), defBody (top 28), defScope (top 28), [], []⟩
def d_told_limit : He.DefD := ⟨("told_limit", none), "told_limit", "told_limit", defArgs (top 29), defBody (top 29), defScope (top 29), [], []⟩
def d_is_worse : He.DefD := ⟨("is_worse", none), "is_worse", "is_worse", defArgs (top 31), defBody (top 31), defScope (top 31), [], []⟩
def d_told_fewest : He.DefD := ⟨("told_fewest", none), "told_fewest", "told_fewest", defArgs (top 30), defBody (top 30), defScope (top 30), [], []⟩
def d_fewest_letters : He.DefD := ⟨("fewest_letters", none), "fewest_letters", "fewest_letters", defArgs (top 32), defBody (top 32), defScope (top 32), [], []⟩
def d_shows_fewest_letters : He.DefD := ⟨("shows_fewest_letters", none), "shows_fewest_letters", "shows_fewest_letters", defArgs (top 33), defBody (top 33), defScope (top 33), [], []⟩
def d_look_at_spans : He.DefD := ⟨("look_at_spans", none), "look_at_spans", "look_at_spans", defArgs (top 37), defBody (top 37), defScope (top 37), [], []⟩
def d_told_points : He.DefD := ⟨("told_points", none), "told_points", "told_points", defArgs (top 38), defBody (top 38), defScope (top 38), [], []⟩
def d_fewest_numbers : He.DefD := ⟨("fewest_numbers", none), "fewest_numbers", "fewest_numbers", defArgs (top 39), defBody (top 39), defScope (top 39), [], []⟩
def d_shows_fewest_numbers : He.DefD := ⟨("shows_fewest_numbers", none), "shows_fewest_numbers", "shows_fewest_numbers", defArgs (top 40), defBody (top 40), defScope (top 40), [], []⟩
def d_are_stays : He.DefD := ⟨("are_stays", none), "are_stays", "are_stays", defArgs (top 44), defBody (top 44), defScope (top 44), [], []⟩
def d_look_at_stays : He.DefD := ⟨("look_at_stays", none), "look_at_stays", "look_at_stays", defArgs (top 45), defBody (top 45), defScope (top 45), [], []⟩
def d_told_there : He.DefD := ⟨("told_there", none), "told_there", "told_there", defArgs (top 46), defBody (top 46), defScope (top 46), [], []⟩
def d_there_at : He.DefD := ⟨("there_at", none), "there_at", "there_at", defArgs (top 47), defBody (top 47), defScope (top 47), [], []⟩
def d_ticks_used : He.DefD := ⟨("ticks_used", none), "ticks_used", "ticks_used", defArgs (top 48), defBody (top 48), defScope (top 48), [], []⟩
def d__law_pot : He.DefD := ⟨("_law_pot", none), "_law_pot", "_law_pot", defArgs (top 50), defBody (top 50), defScope (top 50), [], []⟩
def d__law_take : He.DefD := ⟨("_law_take", none), "_law_take", "_law_take", defArgs (top 51), defBody (top 51), defScope (top 51), [], []⟩
def d__law_of : He.DefD := ⟨("_law_of", none), "_law_of", "_law_of", defArgs (top 52), defBody (top 52), defScope (top 52), [], []⟩
def d__law_cells : He.DefD := ⟨("_law_cells", none), "_law_cells", "_law_cells", defArgs (top 53), defBody (top 53), defScope (top 53), [], []⟩
def d__law_uses : He.DefD := ⟨("_law_uses", none), "_law_uses", "_law_uses", defArgs (top 54), defBody (top 54), defScope (top 54), [], []⟩
def d__law_stays : He.DefD := ⟨("_law_stays", none), "_law_stays", "_law_stays", defArgs (top 55), defBody (top 55), defScope (top 55), [], []⟩
def d__law_first_open : He.DefD := ⟨("_law_first_open", none), "_law_first_open", "_law_first_open", defArgs (top 56), defBody (top 56), defScope (top 56), [], []⟩
def d__law_letters : He.DefD := ⟨("_law_letters", none), "_law_letters", "_law_letters", defArgs (top 57), defBody (top 57), defScope (top 57), [], []⟩
def d__law_are_boxes_right : He.DefD := ⟨("_law_are_boxes_right", none), "_law_are_boxes_right", "_law_are_boxes_right", defArgs (top 58), defBody (top 58), defScope (top 58), [], []⟩
def d__law_is_few_right : He.DefD := ⟨("_law_is_few_right", none), "_law_is_few_right", "_law_is_few_right", defArgs (top 59), defBody (top 59), defScope (top 59), [], []⟩
def d__law_right : He.DefD := ⟨("_law_right", none), "_law_right", "_law_right", defArgs (top 60), defBody (top 60), defScope (top 60), [], []⟩
def d_law : He.DefD := ⟨("law", none), "law", "law", defArgs (top 61), defBody (top 61), defScope (top 61), [], []⟩
def hfn : List He.DefD := [d_is_int, d_are_ints, d_is_told, d_is_hold, d_look_at_hold, d_are_letters, d_look_at_letters, d_told_ticks, d_told_loss, d_held, d_shows_held, d_first_loss, d_told_keeps, d_told_limit, d_is_worse, d_told_fewest, d_fewest_letters, d_shows_fewest_letters, d_look_at_spans, d_told_points, d_fewest_numbers, d_shows_fewest_numbers, d_are_stays, d_look_at_stays, d_told_there, d_there_at, d_ticks_used, d__law_pot, d__law_take, d__law_of, d__law_cells, d__law_uses, d__law_stays, d__law_first_open, d__law_letters, d__law_are_boxes_right, d__law_is_few_right, d__law_right, d_law]
def hfa : List He.Fa := [.glo "is_int", .glo "are_ints", .glo "is_told", .glo "is_hold", .glo "look_at_hold", .glo "are_letters", .glo "look_at_letters", .glo "told_ticks", .glo "told_loss", .glo "held", .glo "shows_held", .glo "first_loss", .glo "told_keeps", .glo "told_limit", .glo "is_worse", .glo "told_fewest", .glo "fewest_letters", .glo "shows_fewest_letters", .glo "look_at_spans", .glo "told_points", .glo "fewest_numbers", .glo "shows_fewest_numbers", .glo "are_stays", .glo "look_at_stays", .glo "told_there", .glo "there_at", .glo "ticks_used", .glo "_law_pot", .glo "_law_take", .glo "_law_of", .glo "_law_cells", .glo "_law_uses", .glo "_law_stays", .glo "_law_first_open", .glo "_law_letters", .glo "_law_are_boxes_right", .glo "_law_is_few_right", .glo "_law_right", .glo "law", .free "abs", .free "all", .free "any", .free "bool", .free "enumerate", .free "int", .free "isinstance", .free "len", .free "list", .free "max", .free "min", .free "range", .free "repr", .free "set", .free "sorted", .free "str", .free "sum", .free "tuple", .free "zip", .int "FOUR" (4), .str "HELD" "held", .str "LOST" "lost", .int "MOST_BOXES" (16), .int "MOST_KEEP" (1000000), .int "MOST_LETTERS" (4000), .int "MOST_SOME" (200), .int "MOST_STAYS" (40), .int "MOST_TICK" (1000000), .int "MOST_TIME" (1000000000000), .int "MOST_UNTIL" (2000)]
def hloose : List PySem.Str := (["__name__", "HoleError", "BadInt", "BadHold", "BadLetters", "BadStays", "BadBounds", "is_int", "are_ints", "is_told", "MOST_BOXES", "MOST_KEEP", "MOST_UNTIL", "MOST_LETTERS", "FOUR", "HELD", "LOST", "is_hold", "look_at_hold", "are_letters", "look_at_letters", "told_ticks", "told_loss", "held", "shows_held", "first_loss", "told_keeps", "told_limit", "told_fewest", "is_worse"] : List PySem.Str) ++ (["fewest_letters", "shows_fewest_letters", "MOST_TIME", "MOST_SOME", "look_at_spans", "told_points", "fewest_numbers", "shows_fewest_numbers", "MOST_STAYS", "MOST_TICK", "are_stays", "look_at_stays", "told_there", "there_at", "ticks_used", "_law_pot", "_law_take", "_law_of", "_law_cells", "_law_uses", "_law_stays", "_law_first_open", "_law_letters", "_law_are_boxes_right", "_law_is_few_right", "_law_right"] : List PySem.Str)
abbrev hR : PySem.W.OpenRow := PySem.W.OpenLaw.row PySem.Challenge.rw_holesheldopen_k75_whole_holes_open_told
abbrev hHk : PySem.W.Hook := He.hookD 4 hfa hfn
def hob (s : PySem.W.SharedT) : He.AlD := He.obsDG 4 hfa hfn (HandSHeadRun.getT s)
theorem hob_eq (s : PySem.W.SharedT) : hob s = hHk.obs s.abs := He.obsDG_eq (HandSHeadRun.getT_eq s)
theorem hrun (w : World) : HandSHeadRun.RunEq hR (PySem.W.view hR.prog [61]) hHk hob 8000 hloose w := by
  intro os
  kernel_rfl
theorem wd_of {K : PySem.W.Frag} {h : Heap} {mg : Str → Option Value} (X : K.In h) (G : h.Ns mainGlobals mg) (c : He.SaysD hfa hfn K) : Wd K mg := by
  constructor
  · obtain ⟨fd, F⟩ := c.def_ 0 (d := d_is_int) rfl
    exact ⟨_, fd, F, He.glo_ok X G (c.fact 0 (f := .glo "is_int") rfl)⟩
  · obtain ⟨fd, F⟩ := c.def_ 1 (d := d_are_ints) rfl
    exact ⟨_, fd, F, He.glo_ok X G (c.fact 1 (f := .glo "are_ints") rfl)⟩
  · obtain ⟨fd, F⟩ := c.def_ 2 (d := d_is_told) rfl
    exact ⟨_, fd, F, He.glo_ok X G (c.fact 2 (f := .glo "is_told") rfl)⟩
  · obtain ⟨fd, F⟩ := c.def_ 3 (d := d_is_hold) rfl
    exact ⟨_, fd, F, He.glo_ok X G (c.fact 3 (f := .glo "is_hold") rfl)⟩
  · obtain ⟨fd, F⟩ := c.def_ 4 (d := d_look_at_hold) rfl
    exact ⟨_, fd, F, He.glo_ok X G (c.fact 4 (f := .glo "look_at_hold") rfl)⟩
  · obtain ⟨fd, F⟩ := c.def_ 5 (d := d_are_letters) rfl
    exact ⟨_, fd, F, He.glo_ok X G (c.fact 5 (f := .glo "are_letters") rfl)⟩
  · obtain ⟨fd, F⟩ := c.def_ 6 (d := d_look_at_letters) rfl
    exact ⟨_, fd, F, He.glo_ok X G (c.fact 6 (f := .glo "look_at_letters") rfl)⟩
  · obtain ⟨fd, F⟩ := c.def_ 7 (d := d_told_ticks) rfl
    exact ⟨_, fd, F, He.glo_ok X G (c.fact 7 (f := .glo "told_ticks") rfl)⟩
  · obtain ⟨fd, F⟩ := c.def_ 8 (d := d_told_loss) rfl
    exact ⟨_, fd, F, He.glo_ok X G (c.fact 8 (f := .glo "told_loss") rfl)⟩
  · obtain ⟨fd, F⟩ := c.def_ 9 (d := d_held) rfl
    exact ⟨_, fd, F, He.glo_ok X G (c.fact 9 (f := .glo "held") rfl)⟩
  · obtain ⟨fd, F⟩ := c.def_ 10 (d := d_shows_held) rfl
    exact ⟨_, fd, F, He.glo_ok X G (c.fact 10 (f := .glo "shows_held") rfl)⟩
  · obtain ⟨fd, F⟩ := c.def_ 11 (d := d_first_loss) rfl
    exact ⟨_, fd, F, He.glo_ok X G (c.fact 11 (f := .glo "first_loss") rfl)⟩
  · obtain ⟨fd, F⟩ := c.def_ 12 (d := d_told_keeps) rfl
    exact ⟨_, fd, F, He.glo_ok X G (c.fact 12 (f := .glo "told_keeps") rfl)⟩
  · obtain ⟨fd, F⟩ := c.def_ 13 (d := d_told_limit) rfl
    exact ⟨_, fd, F, He.glo_ok X G (c.fact 13 (f := .glo "told_limit") rfl)⟩
  · obtain ⟨fd, F⟩ := c.def_ 14 (d := d_is_worse) rfl
    exact ⟨_, fd, F, He.glo_ok X G (c.fact 14 (f := .glo "is_worse") rfl)⟩
  · obtain ⟨fd, F⟩ := c.def_ 15 (d := d_told_fewest) rfl
    exact ⟨_, fd, F, He.glo_ok X G (c.fact 15 (f := .glo "told_fewest") rfl)⟩
  · obtain ⟨fd, F⟩ := c.def_ 16 (d := d_fewest_letters) rfl
    exact ⟨_, fd, F, He.glo_ok X G (c.fact 16 (f := .glo "fewest_letters") rfl)⟩
  · obtain ⟨fd, F⟩ := c.def_ 17 (d := d_shows_fewest_letters) rfl
    exact ⟨_, fd, F, He.glo_ok X G (c.fact 17 (f := .glo "shows_fewest_letters") rfl)⟩
  · obtain ⟨fd, F⟩ := c.def_ 18 (d := d_look_at_spans) rfl
    exact ⟨_, fd, F, He.glo_ok X G (c.fact 18 (f := .glo "look_at_spans") rfl)⟩
  · obtain ⟨fd, F⟩ := c.def_ 19 (d := d_told_points) rfl
    exact ⟨_, fd, F, He.glo_ok X G (c.fact 19 (f := .glo "told_points") rfl)⟩
  · obtain ⟨fd, F⟩ := c.def_ 20 (d := d_fewest_numbers) rfl
    exact ⟨_, fd, F, He.glo_ok X G (c.fact 20 (f := .glo "fewest_numbers") rfl)⟩
  · obtain ⟨fd, F⟩ := c.def_ 21 (d := d_shows_fewest_numbers) rfl
    exact ⟨_, fd, F, He.glo_ok X G (c.fact 21 (f := .glo "shows_fewest_numbers") rfl)⟩
  · obtain ⟨fd, F⟩ := c.def_ 22 (d := d_are_stays) rfl
    exact ⟨_, fd, F, He.glo_ok X G (c.fact 22 (f := .glo "are_stays") rfl)⟩
  · obtain ⟨fd, F⟩ := c.def_ 23 (d := d_look_at_stays) rfl
    exact ⟨_, fd, F, He.glo_ok X G (c.fact 23 (f := .glo "look_at_stays") rfl)⟩
  · obtain ⟨fd, F⟩ := c.def_ 24 (d := d_told_there) rfl
    exact ⟨_, fd, F, He.glo_ok X G (c.fact 24 (f := .glo "told_there") rfl)⟩
  · obtain ⟨fd, F⟩ := c.def_ 25 (d := d_there_at) rfl
    exact ⟨_, fd, F, He.glo_ok X G (c.fact 25 (f := .glo "there_at") rfl)⟩
  · obtain ⟨fd, F⟩ := c.def_ 26 (d := d_ticks_used) rfl
    exact ⟨_, fd, F, He.glo_ok X G (c.fact 26 (f := .glo "ticks_used") rfl)⟩
  · obtain ⟨fd, F⟩ := c.def_ 27 (d := d__law_pot) rfl
    exact ⟨_, fd, F, He.glo_ok X G (c.fact 27 (f := .glo "_law_pot") rfl)⟩
  · obtain ⟨fd, F⟩ := c.def_ 28 (d := d__law_take) rfl
    exact ⟨_, fd, F, He.glo_ok X G (c.fact 28 (f := .glo "_law_take") rfl)⟩
  · obtain ⟨fd, F⟩ := c.def_ 29 (d := d__law_of) rfl
    exact ⟨_, fd, F, He.glo_ok X G (c.fact 29 (f := .glo "_law_of") rfl)⟩
  · obtain ⟨fd, F⟩ := c.def_ 30 (d := d__law_cells) rfl
    exact ⟨_, fd, F, He.glo_ok X G (c.fact 30 (f := .glo "_law_cells") rfl)⟩
  · obtain ⟨fd, F⟩ := c.def_ 31 (d := d__law_uses) rfl
    exact ⟨_, fd, F, He.glo_ok X G (c.fact 31 (f := .glo "_law_uses") rfl)⟩
  · obtain ⟨fd, F⟩ := c.def_ 32 (d := d__law_stays) rfl
    exact ⟨_, fd, F, He.glo_ok X G (c.fact 32 (f := .glo "_law_stays") rfl)⟩
  · obtain ⟨fd, F⟩ := c.def_ 33 (d := d__law_first_open) rfl
    exact ⟨_, fd, F, He.glo_ok X G (c.fact 33 (f := .glo "_law_first_open") rfl)⟩
  · obtain ⟨fd, F⟩ := c.def_ 34 (d := d__law_letters) rfl
    exact ⟨_, fd, F, He.glo_ok X G (c.fact 34 (f := .glo "_law_letters") rfl)⟩
  · obtain ⟨fd, F⟩ := c.def_ 35 (d := d__law_are_boxes_right) rfl
    exact ⟨_, fd, F, He.glo_ok X G (c.fact 35 (f := .glo "_law_are_boxes_right") rfl)⟩
  · obtain ⟨fd, F⟩ := c.def_ 36 (d := d__law_is_few_right) rfl
    exact ⟨_, fd, F, He.glo_ok X G (c.fact 36 (f := .glo "_law_is_few_right") rfl)⟩
  · obtain ⟨fd, F⟩ := c.def_ 37 (d := d__law_right) rfl
    exact ⟨_, fd, F, He.glo_ok X G (c.fact 37 (f := .glo "_law_right") rfl)⟩
  · obtain ⟨fd, F⟩ := c.def_ 38 (d := d_law) rfl
    exact ⟨_, fd, F, He.glo_ok X G (c.fact 38 (f := .glo "law") rfl)⟩
  · exact He.free_ok X G (c.fact 39 (f := .free "abs") rfl)
  · exact He.free_ok X G (c.fact 40 (f := .free "all") rfl)
  · exact He.free_ok X G (c.fact 41 (f := .free "any") rfl)
  · exact He.free_ok X G (c.fact 42 (f := .free "bool") rfl)
  · exact He.free_ok X G (c.fact 43 (f := .free "enumerate") rfl)
  · exact He.free_ok X G (c.fact 44 (f := .free "int") rfl)
  · exact He.free_ok X G (c.fact 45 (f := .free "isinstance") rfl)
  · exact He.free_ok X G (c.fact 46 (f := .free "len") rfl)
  · exact He.free_ok X G (c.fact 47 (f := .free "list") rfl)
  · exact He.free_ok X G (c.fact 48 (f := .free "max") rfl)
  · exact He.free_ok X G (c.fact 49 (f := .free "min") rfl)
  · exact He.free_ok X G (c.fact 50 (f := .free "range") rfl)
  · exact He.free_ok X G (c.fact 51 (f := .free "repr") rfl)
  · exact He.free_ok X G (c.fact 52 (f := .free "set") rfl)
  · exact He.free_ok X G (c.fact 53 (f := .free "sorted") rfl)
  · exact He.free_ok X G (c.fact 54 (f := .free "str") rfl)
  · exact He.free_ok X G (c.fact 55 (f := .free "sum") rfl)
  · exact He.free_ok X G (c.fact 56 (f := .free "tuple") rfl)
  · exact He.free_ok X G (c.fact 57 (f := .free "zip") rfl)
  · exact He.int_ok X G (c.fact 58 (f := .int "FOUR" (4)) rfl)
  · exact He.str_ok X G (c.fact 59 (f := .str "HELD" "held") rfl)
  · exact He.str_ok X G (c.fact 60 (f := .str "LOST" "lost") rfl)
  · exact He.int_ok X G (c.fact 61 (f := .int "MOST_BOXES" (16)) rfl)
  · exact He.int_ok X G (c.fact 62 (f := .int "MOST_KEEP" (1000000)) rfl)
  · exact He.int_ok X G (c.fact 63 (f := .int "MOST_LETTERS" (4000)) rfl)
  · exact He.int_ok X G (c.fact 64 (f := .int "MOST_SOME" (200)) rfl)
  · exact He.int_ok X G (c.fact 65 (f := .int "MOST_STAYS" (40)) rfl)
  · exact He.int_ok X G (c.fact 66 (f := .int "MOST_TICK" (1000000)) rfl)
  · exact He.int_ok X G (c.fact 67 (f := .int "MOST_TIME" (1000000000000)) rfl)
  · exact He.int_ok X G (c.fact 68 (f := .int "MOST_UNTIL" (2000)) rfl)
end DL
open PySem PySem.W PySem.Calls PyProof.Rows
theorem DL.the_end (hg : ∀ ns : List Int, ns.length ≤ 63 → DL.g_law [.list (ns.map .int)] = some (.bool true)) : PySem.Challenge.rw_holesheldopen_k75_whole_holes_open_told.Holds := by
  w_on; o_law
  refine HandSHeadRun.head_any (r := OpenLaw.row PySem.Challenge.rw_holesheldopen_k75_whole_holes_open_told) (q := view (OpenLaw.row PySem.Challenge.rw_holesheldopen_k75_whole_holes_open_told).prog [61]) (H := DL.hHk) (ob := DL.hob) (M := 8000) (loose := DL.hloose) (d := HandSHeadRun.topDef (OpenLaw.row PySem.Challenge.rw_holesheldopen_k75_whole_holes_open_told).prog 61) (kwd := []) DL.hob_eq
    (by kernel_rfl) (fun s => by kernel_rfl) DL.hrun (by kernel_rfl) (by kernel_rfl) (by kernel_rfl) (by rfl) (by first | assumption | decide +kernel) (by decide +kernel) ⟨rfl, rfl, rfl, rfl, rfl, by decide +kernel⟩ ?hw ?hc
  case hw => w_witness2
  case hc =>
    refine DL.walk_end (l := PySem.Challenge.rw_holesheldopen_k75_whole_holes_open_told) (n := 63) (k := 9) (x := "law") (g := DL.g_law) rfl (by decide) (by kernel_rfl) ⟨rfl, by decide, by decide⟩ (by kernel_rfl) ?F hg
    intro w mg h Y G
    obtain ⟨K, KX, c⟩ := Y
    exact ⟨K, KX, fun base _ _ => DL.F_law (DL.wd_of KX G c)⟩

set_option Elab.async false
set_option linter.all false
set_option maxRecDepth 100000
set_option maxHeartbeats 2000000
set_option autoImplicit false
namespace DL
open PySem PySem.Spec PyProof.Rows L2
/-! ### what is drawn from a script's cell -/
/-- of at most p bits -/
def Bd (p : Nat) (x : Int) : Prop := x.natAbs < 2 ^ p
theorem Bd.up {p q : Nat} {x : Int} (h : Bd p x) (hp : p ≤ q) : Bd q x := Nat.lt_of_lt_of_le h (Nat.pow_le_pow_right (by decide) hp)
theorem Bd.mul {p q : Nat} {x y : Int} (h : Bd p x) (g : Bd q y) : Bd (p + q) (x * y) := by
  unfold Bd at *
  rw [Int.natAbs_mul, Nat.pow_add]
  exact Nat.mul_lt_mul'' h g
theorem Bd.add {p : Nat} {x y : Int} (h : Bd p x) (g : Bd p y) : Bd (p + 1) (x + y) := by
  unfold Bd at *
  rw [Nat.pow_succ]
  have := Int.natAbs_add_le x y
  omega
theorem Bd.fit {p : Nat} {x : Int} (h : Bd p x) (hp : p ≤ 1000) : fitsM x = true := fitsM_of (h.up hp)
theorem Bd.of {p : Nat} {x : Int} (h1 : -(2 ^ p : Nat) < x) (h2 : x < (2 ^ p : Nat)) : Bd p x := by
  unfold Bd
  omega
theorem bmul {p q : Nat} {x y : Int} (h : Bd p x) (g : Bd q y) (hp : p ≤ 1000 := by decide) (hq : q ≤ 1000 := by decide) : dMul (.int x) (.int y) = some (.int (x * y)) := dMul_ii (h.up hp) (g.up hq)
theorem bdiv {q : Nat} {x y : Int} (h : 0 < y) (g : Bd q y) (hq : q ≤ 1000 := by decide) : dFdiv (.int x) (.int y) = some (.int (x / y)) := dFdiv_ii h (g.up hq)
theorem bmod {x y : Int} (h : 0 < y) : dMod (.int x) (.int y) = some (.int (x % y)) := dMod_ii h
structure Pot (k : Nat) (ps : List D) : Prop where
  ex : ∃ a b c : Int, ps = [.int a, .int b, .int c] ∧ 0 ≤ a ∧ 0 ≤ b ∧ b < 2 ^ 62 ∧ 0 ≤ c ∧ c ≤ k
theorem Pot.up {j k : Nat} {ps : List D} (h : Pot j ps) (hk : j ≤ k) : Pot k ps := by
  obtain ⟨a, b, c, e, h1, h2, h3, h4, h5⟩ := h.ex
  exact ⟨a, b, c, e, h1, h2, h3, h4, by omega⟩
theorem five (i : Int) (h0 : 0 ≤ i) (h5 : i < 5) : ∃ p : Int, 0 < p ∧ p < 2 ^ 31 ∧ dIx (.list [.int 2147483647, .int 2147483629, .int 2147483587, .int 2147483579, .int 2147483563]) (.int i) = some (.int p) := by
  have : i = 0 ∨ i = 1 ∨ i = 2 ∨ i = 3 ∨ i = 4 := by omega
  rcases this with rfl | rfl | rfl | rfl | rfl
  · exact ⟨2147483647, by decide, by decide, rfl⟩
  · exact ⟨2147483629, by decide, by decide, rfl⟩
  · exact ⟨2147483587, by decide, by decide, rfl⟩
  · exact ⟨2147483579, by decide, by decide, rfl⟩
  · exact ⟨2147483563, by decide, by decide, rfl⟩
theorem take_ok {k : Nat} {ps : List D} {u : Int} (hp : Pot k ps) (hk : k < 2 ^ 60) (h1 : 1 ≤ u) (h2 : u < 2 ^ 60) : ∃ d ps', g__law_take ps [.int u] = some (.int d, ps') ∧ 0 ≤ d ∧ d < u ∧ Pot (k + 1) ps' := by
  obtain ⟨a, b, c, rfl, a0, b0, b1, c0, c1⟩ := hp.ex
  have hu : Bd 60 u := Bd.of (by omega) (by omega)
  have i0 : ∀ x y z : Int, dIx (.list [.int x, .int y, .int z]) (.int 0) = some (.int x) := fun _ _ _ => rfl
  have i1 : ∀ x y z : Int, dIx (.list [.int x, .int y, .int z]) (.int 1) = some (.int y) := fun _ _ _ => rfl
  have i2 : ∀ x y z : Int, dIx (.list [.int x, .int y, .int z]) (.int 2) = some (.int z) := fun _ _ _ => rfl
  have s0 : ∀ x y z w : Int, setD [.int x, .int y, .int z] (.int 0) (.int w) = some [.int w, .int y, .int z] := fun _ _ _ _ => rfl
  have s2 : ∀ x y z w : Int, setD [.int x, .int y, .int z] (.int 2) (.int w) = some [.int x, .int y, .int w] := fun _ _ _ _ => rfl
  have di : ∀ x : Int, dInt [.int x] = some (.int x) := fun _ => rfl
  by_cases ha : 0 < a
  · refine ⟨a % u, [.int (a / u), .int b, .int c], ?_, Int.emod_nonneg _ (by omega), Int.emod_lt_of_pos _ (by omega), ⟨a / u, b, c, rfl, Int.ediv_nonneg a0 (by omega), b0, b1, c0, by omega⟩⟩
    simp only [g__law_take, b__law_take, B__law_take, bin_s, i0, dGt_ii, Option.bind_some, isB_s, decide_eq_true ha, consO_s, di, bmod (show 0 < u by omega), bdiv (show 0 < u by omega) hu, s0]
    rfl
  · have hb : Bd 62 b := Bd.of (by omega) (by omega)
    have hc : Bd 61 (c + 1) := Bd.of (by omega) (by omega)
    have h95 : Bd 60 (95257 : Int) := Bd.of (by decide) (by decide)
    have m1 : Bd 121 (95257 * (c + 1)) := h95.mul hc
    have m2 : Bd 182 (95257 * (c + 1) * (c + 1)) := m1.mul hc
    have m3 : Bd 184 (b + 95257 * (c + 1) * (c + 1) + 3163) := Bd.add ((hb.up (by decide)).add m2) ((Bd.of (p := 60) (by decide) (by decide)).up (by decide))
    obtain ⟨p, p0, p1, pe⟩ := five ((c + 1) % 5) (Int.emod_nonneg _ (by decide)) (Int.emod_lt_of_pos _ (by decide))
    have pw : dPow (.int (b + 95257 * (c + 1) * (c + 1) + 3163)) (.int 3) = some (.int ((b + 95257 * (c + 1) * (c + 1) + 3163) ^ 3)) := dPow_ii (n := 3) (by decide) (m3.up (by decide))
    generalize hX : (b + 95257 * (c + 1) * (c + 1) + 3163) ^ 3 = X at pw
    have q0 : 0 ≤ X % p := Int.emod_nonneg _ (by omega)
    have q1 : X % p < p := Int.emod_lt_of_pos _ p0
    have hY : Bd 31 (X % p) := Bd.of (by omega) (by omega)
    have h41 : Bd 60 (419 : Int) := Bd.of (by decide) (by decide)
    have r1 : Bd 121 (419 * (c + 1)) := h41.mul hc
    have r0 : 0 ≤ X % p % 13441 := Int.emod_nonneg _ (by decide)
    have r2 : X % p % 13441 < 13441 := Int.emod_lt_of_pos _ (by decide)
    have r3 : Bd 122 (X % p % 13441 + 419 * (c + 1)) := Bd.add ((Bd.of (p := 60) (by omega) (by omega)).up (by decide)) r1
    refine ⟨_, [.int a, .int b, .int (c + 1)], ?_, Int.emod_nonneg (X % p * (X % p % 13441 + 419 * (c + 1)) % 2305843009213693907 / 229) (show u ≠ 0 by omega), Int.emod_lt_of_pos _ (show 0 < u by omega), ⟨a, b, c + 1, rfl, a0, b0, b1, by omega, by omega⟩⟩
    have l5 : lenOk (some [PyData.int 2147483647, .int 2147483629, .int 2147483587, .int 2147483579, .int 2147483563]) = some [.int 2147483647, .int 2147483629, .int 2147483587, .int 2147483579, .int 2147483563] := rfl
    have f229 : Bd 60 (229 : Int) := Bd.of (by decide) (by decide)
    simp only [g__law_take, b__law_take, B__law_take, bin_s, i0, i1, i2, s2, dGt_ii, Option.bind_some, isB_s, decide_eq_false ha, iteO_f, consO_s, di, dPlus_ii, bmod (show (0 : Int) < 5 by decide), l5, Option.map_some, pe, bmul h95 hc, bmul m1 hc, pw, bmod p0, bmod (show (0 : Int) < 13441 by decide), bmul h41 hc, bmul hY r3, bmod (show (0 : Int) < 2305843009213693907 by decide), bdiv (show (0 : Int) < 229 by decide) f229, bmod (show 0 < u by omega)]
    rfl
theorem of_ok {k : Nat} {ps : List D} {xs : List D} (hp : Pot k ps) (hk : k < 2 ^ 60) (h1 : 1 ≤ xs.length) (h2 : xs.length ≤ 100000) : ∃ (i : Nat) (h : i < xs.length) (ps' : List D), g__law_of ps [.tuple xs] = some (xs[i], ps') ∧ Pot (k + 1) ps' := by
  obtain ⟨d, ps', e, d0, d1, hp'⟩ := take_ok (u := (xs.length : Nat)) hp hk (by omega) (by omega)
  obtain ⟨i, rfl⟩ := Int.eq_ofNat_of_zero_le d0
  have hi : i < xs.length := by omega
  refine ⟨i, hi, ps', ?_, hp'⟩
  simp only [g__law_of, b__law_of, B__law_of, binX, liftX, consX, consO_s, Option.bind_some, Option.map_some, dLen_t, e, ix_t hi]
  rfl
theorem ofl_ok {k : Nat} {ps : List D} {xs : List D} (hp : Pot k ps) (hk : k < 2 ^ 60) (h1 : 1 ≤ xs.length) (h2 : xs.length ≤ 100000) : ∃ (i : Nat) (h : i < xs.length) (ps' : List D), g__law_of ps [.list xs] = some (xs[i], ps') ∧ Pot (k + 1) ps' := by
  obtain ⟨d, ps', e, d0, d1, hp'⟩ := take_ok (u := (xs.length : Nat)) hp hk (by omega) (by omega)
  obtain ⟨i, rfl⟩ := Int.eq_ofNat_of_zero_le d0
  have hi : i < xs.length := by omega
  refine ⟨i, hi, ps', ?_, hp'⟩
  simp only [g__law_of, b__law_of, B__law_of, binX, liftX, consX, consO_s, Option.bind_some, Option.map_some, dLen_l, e, ix_l hi]
  rfl
theorem pot_ok (ns : List Int) {p : Nat} (hp : p ≤ 10) : ∃ ps, g__law_pot [.list (ns.map .int), .int (p : Nat)] = some ps ∧ Pot 0 ps := by
  have di : ∀ x : Int, dInt [.int x] = some (.int x) := fun _ => rfl
  have hpp : Bd 60 (p : Int) := Bd.of (by omega) (by omega)
  have cell : ∃ c : Int, (iteO ((bin dLt (some (.int (p : Nat))) ((consO (some (.list (ns.map .int))) (some [])).bind dLen)).bind isB) (bin dIx (some (.list (ns.map .int))) (some (.int (p : Nat)))) (bin dPlus (bin dPlus (bin dMod ((consO ((consO (slO dSl (some (.list (ns.map .int))) (some none) ((some (.int 1)).bind fun d => (isI d).map some)) (some [])).bind dSum) (some [])).bind dInt) (some (.int 1000211))) (bin dMul (some (.int 4639)) (some (.int (p : Nat))))) (some (.int 3163)))) = some (.int c) := by
    simp only [bin_s, consO_s, Option.bind_some, dLen_l, List.length_map, dLt_ii, isB_s]
    by_cases h : p < ns.length
    · refine ⟨ns[p], ?_⟩
      rw [decide_eq_true (show (p : Int) < (ns.length : Nat) by omega), iteO_t, ix_l (by rw [List.length_map]; exact h)]
      simp
    · refine ⟨((ns.take 1).sum) % 1000211 + 4639 * p + 3163, ?_⟩
      have sl : slO dSl (some (.list (ns.map .int))) (some none) (some (some 1)) = some (.list ((ns.take 1).map .int)) := by
        have := sl_to_l (ns.map PyData.int) 1
        rw [← List.map_take] at this
        exact this
      have sm : dSum [.list ((ns.take 1).map .int)] = some (.int (ns.take 1).sum) := by
        show (intsD ((ns.take 1).map .int)).map _ = _
        rw [ints_map]
        rfl
      rw [decide_eq_false (show ¬ (p : Int) < (ns.length : Nat) by omega), iteO_f]
      simp only [isI_s, Option.map_some, sl, consO_s, Option.bind_some, sm, di, bin_s, bmod (show (0 : Int) < 1000211 by decide), bmul (Bd.of (p := 60) (show -((2 ^ 60 : Nat) : Int) < 4639 by decide) (by decide)) hpp, dPlus_ii]
  obtain ⟨c, hc⟩ := cell
  have da : dAbs [.int c] = some (.int (if c < 0 then -c else c)) := rfl
  generalize hA : (if c < 0 then -c else c) = A at da
  have p10 : Bd 4 (10 : Int) := Bd.of (by decide) (by decide)
  have t60 : dPow (.int 10) (.int 60) = some (.int (10 ^ 60)) := dPow_ii (n := 60) (by decide) (p10.up (by decide))
  have b60 : Bd 200 ((10 : Int) ^ 60) := by unfold Bd; decide
  have t300 : dPow (.int (10 ^ 60)) (.int 5) = some (.int ((10 ^ 60) ^ 5)) := dPow_ii (n := 5) (by decide) (b60.up (by decide))
  have t18 : dPow (.int 10) (.int 18) = some (.int (10 ^ 18)) := dPow_ii (n := 18) (by decide) (p10.up (by decide))
  have pos : (0 : Int) < (10 ^ 60) ^ 5 := by decide
  have b300 : Bd 999 (((10 : Int) ^ 60) ^ 5) := by unfold Bd; decide
  have a0 : 0 ≤ A % (10 ^ 60) ^ 5 := Int.emod_nonneg _ (by decide)
  have a1 : Bd 999 (A % (10 ^ 60) ^ 5) := by
    have h := Int.emod_lt_of_pos A pos
    unfold Bd at b300 ⊢
    omega
  have di2 : ∀ t : Bool, dInt [.bool t] = some (.int (if t then 1 else 0)) := fun _ => rfl
  have b1 : ∀ t : Bool, Bd 1 (if t then (1 : Int) else 0) := fun t => by cases t <;> (unfold Bd; decide)
  have s0 : 0 ≤ c % 2305843009213693951 := Int.emod_nonneg _ (by decide)
  have s1 : c % 2305843009213693951 < 2305843009213693951 := Int.emod_lt_of_pos _ (by decide)
  have sb : Bd 62 (c % 2305843009213693951) := Bd.of (by omega) (by omega)
  have c1 : Bd 60 (72161 : Int) := Bd.of (by decide) (by decide)
  have c2 : Bd 60 (10853 : Int) := Bd.of (by decide) (by decide)
  refine ⟨[.int (A % (10 ^ 60) ^ 5 * (if decide ((10 : Int) ^ 18 ≤ A) then 1 else 0)), .int ((c % 2305843009213693951 * 72161 + 10853 * p * p + 2843) % 2305843009213693921), .int 0], ?_, ⟨_, _, _, rfl, Int.mul_nonneg a0 (by split <;> decide), Int.emod_nonneg _ (by decide), Int.lt_trans (Int.emod_lt_of_pos _ (by decide)) (by decide), by decide, by decide⟩⟩
  have l3 : ∀ x y z : D, lenOk (some [x, y, z]) = some [x, y, z] := fun _ _ _ => rfl
  unfold g__law_pot
  simp only [b__law_pot]
  unfold B__law_pot
  rw [hc]
  simp only [bin_s, consO_s, Option.bind_some, da, di, di2, dGe_ii, t60, t300, t18, bmod pos, bmul a1 (b1 _), bmod (show (0 : Int) < 2305843009213693951 by decide), bmul sb c1, bmul c2 hpp, bmul (c2.mul hpp) hpp, dPlus_ii, bmod (show (0 : Int) < 2305843009213693921 by decide), l3, Option.map_some]
  rfl
theorem cells_ok (ns : List Int) : ∃ m : Nat, 1 ≤ m ∧ m ≤ 3 ∧ g__law_cells [.list (ns.map .int), .int 3] = some ((List.range m).map fun i => .int (i : Nat)) := by
  refine ⟨max 1 (min 3 ns.length), by omega, by omega, ?_⟩
  have e : max (1 : Int) (min 3 ((ns.map PyData.int).length : Nat)) = ((max 1 (min 3 ns.length) : Nat) : Int) := by
    rw [List.length_map]
    omega
  have lr : dLR1 (.int ((max 1 (min 3 ns.length) : Nat) : Int)) = some ((List.range (max 1 (min 3 ns.length))).map fun i => .int (i : Nat)) := by
    rw [← rangeL_nat]
    exact if_pos (Bool.and_eq_true_iff.mpr ⟨rOk_nat (by omega), cl_iff.mpr (by omega)⟩)
  simp only [g__law_cells, b__law_cells, B__law_cells, consO_s, Option.bind_some, dLen_l, dMin_ii, dMax_ii, e, lr]
  rfl
end DL

set_option Elab.async false
set_option linter.all false
set_option autoImplicit false
namespace K75
/-! ### uses of a hole: where none comes for too long -/
/-- the first two neighbours that lie more than k apart -/
def gap (k : Int) : List Int → Option (Int × Int)
  | a :: b :: r => if k < b - a then some (a, b) else gap k (b :: r)
  | _ => none
def Cov (k : Int) (l : List Int) (x : Int) : Prop := ∃ t ∈ l, t < x ∧ x ≤ t + k
theorem gap_cov {k : Int} : ∀ {l : List Int} {a z x : Int}, gap k (a :: l) = none → z ∈ a :: l → a < x → x ≤ z → Cov k (a :: l) x
  | [], a, z, x, _, hz, h1, h2 => by
    simp at hz
    omega
  | b :: r, a, z, x, h, hz, h1, h2 => by
    unfold gap at h
    split at h
    · cases h
    · by_cases q : x ≤ b
      · exact ⟨a, List.mem_cons_self, h1, by omega⟩
      · have hz' : z ∈ b :: r := by
          rcases List.mem_cons.mp hz with e | e
          · omega
          · exact e
        obtain ⟨t, ht, h3⟩ := gap_cov h hz' (by omega) h2
        exact ⟨t, List.mem_cons_of_mem _ ht, h3⟩
theorem gap_at {k : Int} : ∀ {l : List Int} {a b : Int}, gap k l = some (a, b) → k < b - a ∧ ∃ pre post, l = pre ++ a :: b :: post ∧ ∀ x, (∀ h, l.head? = some h → h < x) → x ≤ a + k → Cov k l x
  | [], a, b, h => by cases h
  | [_], a, b, h => by cases h
  | y :: z :: r, a, b, h => by
    unfold gap at h
    split at h
    · rename_i q
      cases h
      exact ⟨q, [], r, rfl, fun x h1 h2 => ⟨y, List.mem_cons_self, h1 y rfl, h2⟩⟩
    · obtain ⟨h1, pre, post, h2, h3⟩ := gap_at h
      refine ⟨h1, y :: pre, post, by rw [h2]; rfl, fun x hx hl => ?_⟩
      have hy := hx y rfl
      by_cases q : x ≤ z
      · exact ⟨y, List.mem_cons_self, hy, by omega⟩
      · obtain ⟨t, ht, h5⟩ := h3 x (fun w e => by cases e; omega) hl
        exact ⟨t, List.mem_cons_of_mem _ ht, h5⟩
theorem gap_two {k u : Int} (hk : 0 ≤ k) : ∀ l : List Int, gap k (l ++ [u, u]) = gap k (l ++ [u])
  | [] => by
    show gap k [u, u] = none
    unfold gap
    rw [if_neg (by omega)]
    rfl
  | [a] => by
    show gap k (a :: u :: [u]) = gap k [a, u]
    unfold gap
    split
    · rfl
    · unfold gap
      rw [if_neg (by omega)]
      rfl
  | a :: b :: r => by
    show gap k (a :: b :: (r ++ [u, u])) = gap k (a :: b :: (r ++ [u]))
    unfold gap
    split
    · rfl
    · exact gap_two hk (b :: r)
/-- one more stay counted -/
def used (u k : Int) (s : Int × Int) (t : Int) : Int × Int := (s.1 + max 0 (min u (t + k) + 1 - max (t + 1) s.2), max s.2 (min u (t + k) + 1))
theorem used_all {u k : Int} (hk : 1 ≤ k) : ∀ (r : List Int) (t tot : Int), tot ≤ min u (t + k) → t < u → (t :: r).Pairwise (· < ·) → (∀ x ∈ r, x < u) →
    ((r.foldl (used u k) (tot, min u (t + k) + 1)).1 = u ↔ tot = min u (t + k) ∧ gap k (t :: (r ++ [u])) = none)
  | [], t, tot, h1, h2, _, _ => by
    show tot = u ↔ _ ∧ gap k [t, u] = none
    unfold gap
    split
    · rename_i q
      constructor
      · intro e; omega
      · intro e; cases e.2
    · rename_i q
      show tot = u ↔ tot = _ ∧ none = none
      constructor
      · intro e; exact ⟨by omega, rfl⟩
      · intro e; omega
  | t' :: r, t, tot, h1, h2, hp, hu => by
    have ht : t < t' := (List.pairwise_cons.mp hp).1 t' List.mem_cons_self
    have ht' := hu t' List.mem_cons_self
    have e : used u k (tot, min u (t + k) + 1) t' = (tot + max 0 (min u (t' + k) + 1 - max (t' + 1) (min u (t + k) + 1)), min u (t' + k) + 1) := by
      unfold used
      simp only [Prod.mk.injEq, true_and]
      omega
    rw [List.foldl_cons, e, used_all hk r t' _ (by omega) ht' (List.pairwise_cons.mp hp).2 fun x hx => hu x (List.mem_cons_of_mem _ hx)]
    show _ ↔ _ ∧ gap k (t :: t' :: (r ++ [u])) = none
    rw [gap.eq_1 k t t']
    split
    · rename_i q
      constructor
      · intro e2; omega
      · intro e2; cases e2.2
    · rename_i q
      constructor
      · rintro ⟨e2, e3⟩
        exact ⟨by omega, e3⟩
      · rintro ⟨e2, e3⟩
        exact ⟨by omega, e3⟩
theorem used_top {u k : Int} (hk : 1 ≤ k) (hu : 0 < u) {r : List Int} (hp : (0 :: r).Pairwise (· < ·)) (h : ∀ x ∈ r, x < u) : ((0 :: r).foldl (used u k) (0, 0)).1 = u ↔ gap k (0 :: (r ++ [u])) = none := by
  have e : used u k (0, 0) 0 = (min u (0 + k), min u (0 + k) + 1) := by
    unfold used
    simp only [Prod.mk.injEq]
    omega
  rw [List.foldl_cons, e, used_all hk r 0 _ (Int.le_refl _) hu hp h]
  simp
/-- the state stays within the bound -/
theorem used_le {u k : Int} : ∀ (l : List Int) (s : Int × Int), 0 ≤ s.1 → 0 ≤ (l.foldl (used u k) s).1
  | [], s, h => h
  | t :: r, s, h => used_le r _ (by unfold used; simp only; omega)
end K75

set_option Elab.async false
set_option linter.all false
set_option maxRecDepth 100000
set_option maxHeartbeats 2000000
set_option autoImplicit false
namespace DL
open PySem PySem.Spec PyProof.Rows L2 K75
/-! ### boxes, letters -/
structure Bx where
  s : Int
  k : Int
  b : Bool
def bxD (x : Bx) : D := .tuple [.int x.s, .int x.k, .bool x.b]
def leD (p : Int × Int) : D := .tuple [.int p.1, .int p.2]
structure Bx.Ok (x : Bx) : Prop where
  s0 : 0 ≤ x.s
  s1 : x.s ≤ 1
  k0 : 1 ≤ x.k
  k1 : x.k ≤ 40
structure OkL (u : Int) (ls : List (Int × Int)) : Prop where
  up : ls.Pairwise fun p q => p.1 < q.1
  lo : ∀ p ∈ ls, 1 ≤ p.1
  hi : ∀ p ∈ ls, p.1 ≤ u
  i0 : ∀ p ∈ ls, 0 ≤ p.2
  i1 : ∀ p ∈ ls, p.2 ≤ 1
  len : ls.length ≤ 120
theorem s_int {x lo hi : Int} (h1 : lo ≤ x) (h2 : x ≤ hi) : g_is_int [.int x, .int lo, .int hi] = some (.bool true) := by
  simp [g_is_int, b_is_int, B_is_int, chainO, h1, h2]
theorem s_box {x : Bx} (h : x.Ok) : L1_is_hold () (bxD x) = some (.nx ()) := by
  obtain ⟨h1, h2, h3, h4⟩ := h
  simp [L1_is_hold, bxD, s_int h1 h2, s_int h3 (show x.k ≤ 1000000 by omega)]
theorem s_is_hold {hs : List Bx} (h : ∀ x ∈ hs, x.Ok) (h1 : 1 ≤ hs.length) (h2 : hs.length ≤ 16) : g_is_hold [.tuple (hs.map bxD)] = some (.bool true) := by
  have e : forF (L := Unit) (R := D) (fun l x => (some x).bind (L1_is_hold l)) (hs.map bxD) () = some (.nx ()) :=
    (forF_fold (f := fun l x => (some x).bind (L1_is_hold l)) bxD (fun u : Unit => u) (fun u _ => u) (fun _ _ => True) hs () 0 trivial fun i a s ha _ => ⟨s_box (h a (List.mem_of_getElem? ha)), trivial⟩).1
  simp only [Option.bind_some] at e
  have e1 : (1 : Int) ≤ (hs.length : Nat) := by omega
  have e2 : ((hs.length : Nat) : Int) ≤ 16 := by omega
  simp [g_is_hold, b_is_hold, B_is_hold, chainO, e1, e2, e]
theorem s_look_hold {hs : List Bx} {u : Int} (h : ∀ x ∈ hs, x.Ok) (h1 : 1 ≤ hs.length) (h2 : hs.length ≤ 16) (u0 : 0 ≤ u) (u1 : u ≤ 2000) : g_look_at_hold [.tuple (hs.map bxD), .int u] = some .none := by
  simp [g_look_at_hold, b_look_at_hold, B_look_at_hold, s_is_hold h h1 h2, s_int u0 u1]
theorem lt_tI (xs ys : List Int) : PySem.W.dataLt (.tuple (xs.map .int)) (.tuple (ys.map .int)) = decide (xs < ys) := by
  rw [PySem.W.dataLt_tuple]
  exact PySem.W.dataLt_ints xs ys
theorem lt_le {p q : Int × Int} : PySem.W.dataLt (leD p) (leD q) = decide (p.1 < q.1 ∨ (p.1 = q.1 ∧ p.2 < q.2)) := PySem.W.dataLt_ii _ _ _ _
theorem ord_le (p q : Int × Int) : ordOk (leD p) (leD q) = true := rfl
theorem dLt_le {p q : Int × Int} (h : p.1 < q.1) : dLt (leD p) (leD q) = some (.bool true) := by
  unfold dLt
  rw [ord_le, if_pos rfl, lt_le, decide_eq_true (.inl h)]
theorem s_letter {u : Int} {p : Int × Int} (h0 : 1 ≤ p.1) (h1 : p.1 ≤ u) (h2 : 0 ≤ p.2) (h3 : p.2 ≤ 1) : L1_are_letters (.int u) () (leD p) = some (.nx ()) := by
  simp [L1_are_letters, leD, s_int (show 0 ≤ p.1 by omega) h1, s_int h2 h3]
theorem s_are_letters {u : Int} {ls : List (Int × Int)} (h : OkL u ls) : g_are_letters [.tuple (ls.map leD), .int u] = some (.bool true) := by
  have e : forF (L := Unit) (R := D) (fun l x => (some x).bind (L1_are_letters (.int u) l)) (ls.map leD) () = some (.nx ()) :=
    (forF_fold (f := fun l x => (some x).bind (L1_are_letters (.int u) l)) leD (fun u : Unit => u) (fun u _ => u) (fun _ _ => True) ls () 0 trivial fun i a s ha _ => by
      have hm := List.mem_of_getElem? ha
      exact ⟨s_letter (h.lo a hm) (h.hi a hm) (h.i0 a hm) (h.i1 a hm), trivial⟩).1
  simp only [Option.bind_some] at e
  have hl : ¬ (4000 : Int) < (ls.length : Nat) := by have := h.len; omega
  match ls, h with
  | [], h => rfl
  | p :: r, h =>
    have e2 := rise_lc (leD p) (r.map leD) (by
      show ((p :: r).map leD).Pairwise _
      rw [List.pairwise_map]
      exact h.up.imp fun hl => dLt_le hl)
    have e3 : lenOk (some (r.map fun _ => PyData.bool true)) = some (r.map fun _ => PyData.bool true) := lenOk_s (by have := h.len; simp at this ⊢; omega)
    have e4 := dAll_map (fun _ : Int × Int => true) r
    have e5 : (r.map leD).map (fun _ => PyData.bool true) = r.map fun _ => PyData.bool true := by rw [List.map_map]; rfl
    rw [e5] at e2
    have hl2 : ¬ (4000 : Int) < (r.length : Nat) + 1 := by have := h.len; simp at this; omega
    simp at e4 e e2
    simp [-zip2L_cons, g_are_letters, b_are_letters, B_are_letters, hl2, e, e2, e3, e4]
theorem s_look_letters {hs : List Bx} {u : Int} {ls : List (Int × Int)} (h : ∀ x ∈ hs, x.Ok) (h1 : 1 ≤ hs.length) (h2 : hs.length ≤ 16) (u0 : 0 ≤ u) (u1 : u ≤ 2000) (hl : OkL u ls) : g_look_at_letters [.tuple (hs.map bxD), .tuple (ls.map leD), .int u] = some .none := by
  simp [g_look_at_letters, b_look_at_letters, B_look_at_letters, s_look_hold h h1 h2 u0 u1, s_are_letters hl]
/-! uses -/
def pick (x : Bx) (ls : List (Int × Int)) : List Int := (ls.filter fun p => x.b || decide (p.2 = x.s)).map (·.1)
theorem pick_lc (x : Bx) (ls : List (Int × Int)) : lcF (un2 some some) (fun p2 : (D × D) => (orT ((some (PyData.bool x.b)).bind isB) ((bin dEq (some p2.2) (some (.int x.s))).bind isB))) (fun p2 : (D × D) => (some p2.1)) (ls.map leD) = some ((pick x ls).map .int) := by
  rw [lcF_map leD (fun p => x.b || decide (p.2 = x.s)) (fun p => .int p.1) ls fun p hp => ⟨(.int p.1, .int p.2), rfl, by cases hb : x.b <;> simp, fun _ => rfl⟩]
  unfold pick
  rw [List.map_map]
  rfl
theorem pick_up {u : Int} {x : Bx} {ls : List (Int × Int)} (h : OkL u ls) : (0 :: pick x ls).Pairwise (· < ·) ∧ ∀ t ∈ pick x ls, 1 ≤ t ∧ t ≤ u := by
  have hm : ∀ t ∈ pick x ls, 1 ≤ t ∧ t ≤ u := fun t ht => by
    obtain ⟨p, hp, rfl⟩ := List.mem_map.mp ht
    have hp' := (List.mem_filter.mp hp).1
    exact ⟨h.lo p hp', h.hi p hp'⟩
  refine ⟨List.pairwise_cons.mpr ⟨fun t ht => by have := (hm t ht).1; omega, ?_⟩, hm⟩
  unfold pick
  rw [List.pairwise_map]
  exact (h.up.filter _)
theorem pick_len (x : Bx) (ls : List (Int × Int)) : (pick x ls).length ≤ ls.length := by
  unfold pick
  rw [List.length_map]
  exact List.length_filter_le _ _
theorem s_ticks {x : Bx} {u : Int} {ls : List (Int × Int)} (h : OkL u ls) : g_told_ticks [bxD x, .tuple (ls.map leD)] = some ((0 :: pick x ls).map .int) := by
  have e := pick_lc x ls
  have hl := pick_len x ls
  have hn := h.len
  have e2 : lenOk (some ((pick x ls).map PyData.int)) = some ((pick x ls).map PyData.int) := lenOk_s (by rw [List.length_map]; omega)
  have e3 : lenOk (some (PyData.int 0 :: (pick x ls).map PyData.int)) = some (PyData.int 0 :: (pick x ls).map PyData.int) := lenOk_s (by rw [List.length_cons, List.length_map]; omega)
  simp only [Option.bind_some, bin_s, isB_s] at e
  simp [g_told_ticks, b_told_ticks, B_told_ticks, bxD, e, e2, e3, starO, consO]
theorem setI_up : ∀ {l : List Int}, l.Pairwise (· < ·) → setI l = l
  | [], _ => rfl
  | [x], _ => rfl
  | x :: y :: r, h => by
    obtain ⟨h1, h2⟩ := List.pairwise_cons.mp h
    rw [setI, setI_up h2, insI, if_pos (h1 y List.mem_cons_self)]
theorem s_uses {x : Bx} {u : Int} {ls : List (Int × Int)} (h : OkL u ls) : g__law_uses [bxD x, .tuple (ls.map leD)] = some ((0 :: pick x ls).map .int) := by
  have e := pick_lc x ls
  have hl := pick_len x ls
  have hn := h.len
  have e2 : lenOk (some ((pick x ls).map PyData.int)) = some ((pick x ls).map PyData.int) := lenOk_s (by rw [List.length_map]; omega)
  have e3 : lenOk (some [PyData.int 0]) = some [PyData.int 0] := rfl
  have e4 : dPlus (.list [.int 0]) (.list ((pick x ls).map .int)) = some (.list ((0 :: pick x ls).map .int)) := dPlus_ll (by rw [List.length_map]; simp; omega)
  have e5 : dSSet (.list ((0 :: pick x ls).map .int)) = some ((0 :: pick x ls).map .int) := by
    unfold dSSet
    rw [seqD_l, Option.bind_some, ints_map, Option.bind_some, setI_up (pick_up h).1, if_pos (by rw [List.length_cons]; omega)]
  simp only [Option.bind_some, bin_s, isB_s] at e
  simp only [List.map_cons] at e4 e5
  simp [g__law_uses, b__law_uses, B__law_uses, bxD, e, e2, e3, e4, e5]
end DL

set_option Elab.async false
set_option linter.all false
set_option maxRecDepth 100000
set_option maxHeartbeats 2000000
set_option autoImplicit false
namespace DL
open PySem PySem.Spec PyProof.Rows L2 K75
/-! ### rows of ints -/
def tIs (xs : List Int) : D := .tuple (xs.map .int)
theorem alike_tIs : ∀ xs ys : List Int, PySem.W.alikeAll (xs.map .int) (ys.map .int) = true
  | [], _ => by rw [List.map_nil, PySem.W.alikeAll]
  | _ :: _, [] => by rw [List.map_cons, List.map_nil, PySem.W.alikeAll]
  | x :: r, y :: q => by
    rw [List.map_cons, List.map_cons, PySem.W.alikeAll, alike_tIs r q]
    rfl
theorem hasDict_ints : ∀ xs : List Int, PyData.hasDictAll (xs.map .int) = false
  | [] => rfl
  | x :: r => by
    rw [List.map_cons, PyData.hasDictAll, hasDict_ints r]
    rfl
theorem allAlike_tIs (rs : List (List Int)) : allAlike (rs.map tIs) = true := by
  unfold allAlike
  rw [List.all_eq_true]
  intro d hd
  obtain ⟨x, _, rfl⟩ := List.mem_map.mp hd
  have h1 : ((rs.map tIs).all fun y => PySem.W.alike (tIs x) y) = true := List.all_eq_true.mpr fun e he => by
    obtain ⟨y, _, rfl⟩ := List.mem_map.mp he
    show PySem.W.alike (.tuple _) (.tuple _) = true
    rw [PySem.W.alike, alike_tIs]
  have h2 : (tIs x).depth = 1 := depth_tI x
  have h3 : (tIs x).hasDict = false := by
    show PyData.hasDict (.tuple _) = false
    rw [PyData.hasDict, hasDict_ints]
  rw [h1, h2, h3]
  rfl
theorem minD_rows (rs : List (List Int)) (hn : ∀ r ∈ rs, r ≠ []) : ∀ r : List Int, r ≠ [] → ∃ m, PySem.W.minD (tIs r) (rs.map tIs) = tIs m ∧ m ∈ r :: rs ∧ m.headD 0 ≤ r.headD 0 ∧ ∀ q ∈ rs, m.headD 0 ≤ q.headD 0 := by
  induction rs with
  | nil => exact fun r _ => ⟨r, rfl, List.mem_cons_self, Int.le_refl _, fun q h => nomatch h⟩
  | cons y rs ih =>
    intro r hr
    have hy := hn y List.mem_cons_self
    have e : PySem.W.minD (tIs r) ((y :: rs).map tIs) = PySem.W.minD (if PySem.W.dataLt (tIs y) (tIs r) then tIs y else tIs r) (rs.map tIs) := rfl
    have el : PySem.W.dataLt (tIs y) (tIs r) = decide (y < r) := lt_tI y r
    rw [e, el]
    match y, r, hy, hr with
    | a :: y', b :: r', _, _ =>
      by_cases h : (a :: y') < (b :: r')
      · rw [decide_eq_true h, if_pos rfl]
        obtain ⟨m, h1, h2, h3, h4⟩ := ih (fun q hq => hn q (List.mem_cons_of_mem _ hq)) (a :: y') (List.cons_ne_nil _ _)
        have hab : a ≤ b := by
          rcases List.cons_lt_cons_iff.mp h with z | z
          · exact Int.le_of_lt z
          · rw [z.1]; exact Int.le_refl _
        refine ⟨m, h1, List.mem_cons_of_mem _ h2, Int.le_trans h3 hab, fun q hq => ?_⟩
        rcases List.mem_cons.mp hq with rfl | hq
        · exact h3
        · exact h4 q hq
      · rw [decide_eq_false h, if_neg (by decide)]
        obtain ⟨m, h1, h2, h3, h4⟩ := ih (fun q hq => hn q (List.mem_cons_of_mem _ hq)) (b :: r') (List.cons_ne_nil _ _)
        have hab : b ≤ a := by
          by_cases z : a < b
          · exact absurd (List.cons_lt_cons_iff.mpr (.inl z)) h
          · omega
        refine ⟨m, h1, ?_, h3, fun q hq => ?_⟩
        · rcases List.mem_cons.mp h2 with rfl | h2
          · exact List.mem_cons_self
          · exact List.mem_cons_of_mem _ (List.mem_cons_of_mem _ h2)
        · rcases List.mem_cons.mp hq with rfl | hq
          · exact Int.le_trans h3 hab
          · exact h4 q hq
theorem dMin_rows (rs : List (List Int)) (hn : ∀ r ∈ rs, r ≠ []) (h0 : rs ≠ []) : ∃ m, dMin [.list (rs.map tIs)] = some (tIs m) ∧ m ∈ rs ∧ ∀ q ∈ rs, m.headD 0 ≤ q.headD 0 := by
  match rs, h0 with
  | r :: rs, _ =>
    obtain ⟨m, h1, h2, h3, h4⟩ := minD_rows rs (fun q hq => hn q (List.mem_cons_of_mem _ hq)) r (hn r List.mem_cons_self)
    refine ⟨m, ?_, h2, fun q hq => ?_⟩
    · rw [← h1]
      exact if_pos (allAlike_tIs (r :: rs))
    · rcases List.mem_cons.mp hq with rfl | hq
      · exact h3
      · exact h4 q hq
/-! ### the losses -/
def gapOf (x : Bx) (ls : List (Int × Int)) (u : Int) : Option (Int × Int) := gap x.k (0 :: (pick x ls ++ [u]))
def rowOf (ls : List (Int × Int)) (u : Int) (p : Bx × Nat) : List (List Int) := match gapOf p.1 ls u with
  | some (a, b) => [[a + p.1.k + 1, (p.2 : Nat), a, b]]
  | none => []
def lost (hs : List Bx) (ls : List (Int × Int)) (u : Int) : List (List Int) := hs.zipIdx.flatMap (rowOf ls u)
theorem s_gap (x : Bx) (i : Nat) (found : List D) (hf : found.length ≤ 1000) : ∀ l : List Int, forF (L := List D) (R := D) (fun l x' => ((un2 some some) x').bind (L1_told_loss (.int (i : Nat)) (bxD x) l)) (zip2L (l.map .int) ((l.map .int).drop 1)) found =
    some (.nx (found ++ (match gap x.k l with | some (a, b) => [tIs [a + x.k + 1, (i : Nat), a, b]] | none => [])))
  | [] => by simp [gap]
  | [a] => by simp [gap]
  | a :: b :: r => by
    have ih := s_gap x i found hf (b :: r)
    simp only [List.map_cons, List.drop_succ_cons, List.drop_zero] at ih
    simp only [List.map_cons, List.drop_succ_cons, List.drop_zero, zip2L_cons, forF_cons]
    unfold gap
    by_cases h : x.k < b - a
    · rw [if_pos h]
      have e : L1_told_loss (.int (i : Nat)) (bxD x) found (.int a, .int b) = some (.bk (found ++ [tIs [a + x.k + 1, (i : Nat), a, b]])) := by
        have e1 : ∀ p q w z : D, lenOk (some [p, q, w, z]) = some [p, q, w, z] := fun _ _ _ _ => rfl
        simp [L1_told_loss, bxD, h, e1, appD_s (show found.length < 100000 by omega), tIs]
      simp [e]
    · rw [if_neg h]
      have e : L1_told_loss (.int (i : Nat)) (bxD x) found (.int a, .int b) = some (.nx found) := by
        simp [L1_told_loss, bxD, h]
      rw [un2_s, Option.bind_some, Option.map_some, Option.bind_some, e]
      exact ih
theorem s_loss_box {x : Bx} {u : Int} {ls : List (Int × Int)} (h : OkL u ls) (i : Nat) (found : List D) (hf : found.length ≤ 1000) : L2_told_loss (.tuple (ls.map leD)) (.int u) found (.int (i : Nat), bxD x) = some (.nx (found ++ (rowOf ls u (x, i)).map tIs)) := by
  have e := s_gap x i found hf (0 :: (pick x ls ++ [u]))
  have e1 := s_ticks (x := x) h
  have hl := pick_len x ls
  have hn := h.len
  have e2 : lenOk (starO (some (.list ((0 :: pick x ls).map .int))) (some [.int u])) = some ((0 :: (pick x ls ++ [u])).map .int) := by
    show lenOk (some ((0 :: pick x ls).map .int ++ [.int u])) = _
    rw [lenOk_s (by simp; omega)]
    simp
  have e3 : (match gap x.k (0 :: (pick x ls ++ [u])) with | some (a, b) => [tIs [a + x.k + 1, (i : Nat), a, b]] | none => []) = (rowOf ls u (x, i)).map tIs := by
    show _ = (match gap x.k (0 :: (pick x ls ++ [u])) with | some (a, b) => [[a + x.k + 1, ((i : Nat) : Int), a, b]] | none => []).map tIs
    split <;> rfl
  rw [e3] at e
  generalize hA : (0 :: (pick x ls ++ [u])) = A at e e2
  unfold L2_told_loss
  rw [consO_s, consO_s, Option.bind_some, e1, Option.map_some, consO_s, e2]
  simp [-List.drop_one, e]
theorem row_len (ls : List (Int × Int)) (u : Int) (p : Bx × Nat) : (rowOf ls u p).length ≤ 1 := by
  unfold rowOf
  split <;> simp
theorem fold_flat {α β : Type} (f : α → List β) : ∀ (xs : List α) (acc : List β), xs.foldl (fun acc p => acc ++ f p) acc = acc ++ xs.flatMap f
  | [], acc => by simp
  | x :: r, acc => by rw [List.foldl_cons, fold_flat f r, List.flatMap_cons, List.append_assoc]
theorem lost_ne {hs : List Bx} {ls : List (Int × Int)} {u : Int} : ∀ r ∈ lost hs ls u, ∃ l a b c : Int, r = [l, a, b, c] := fun r hr => by
  obtain ⟨p, hp, h⟩ := List.mem_flatMap.mp hr
  unfold rowOf at h
  split at h
  · rw [List.mem_singleton.mp h]
    exact ⟨_, _, _, _, rfl⟩
  · cases h
theorem enum_hold (hs : List Bx) : enumD (.tuple (hs.map bxD)) = some (hs.zipIdx.map fun p => .tuple [.int (p.2 : Nat), bxD p.1]) := by
  show some ((hs.map bxD).zipIdx.map _) = _
  rw [List.zipIdx_map, List.map_map]
  rfl
theorem line_le {x : Bx} {u : Int} {ls : List (Int × Int)} (h : OkL u ls) (u0 : 0 ≤ u) : (0 :: (pick x ls ++ [u])).Pairwise (· ≤ ·) ∧ ∀ t ∈ 0 :: (pick x ls ++ [u]), 0 ≤ t ∧ t ≤ u := by
  obtain ⟨h1, h2⟩ := pick_up (x := x) h
  have hm : ∀ t ∈ 0 :: (pick x ls ++ [u]), 0 ≤ t ∧ t ≤ u := fun t ht => by
    rcases List.mem_cons.mp ht with rfl | ht
    · exact ⟨Int.le_refl _, u0⟩
    · rcases List.mem_append.mp ht with ht | ht
      · have := h2 t ht; omega
      · rw [List.mem_singleton.mp ht]; exact ⟨u0, Int.le_refl _⟩
  refine ⟨?_, hm⟩
  rw [← List.cons_append, List.pairwise_append]
  refine ⟨h1.imp Int.le_of_lt, List.pairwise_singleton _ _, fun a ha b hb => ?_⟩
  rw [List.mem_singleton.mp hb]
  exact (hm a (by rw [← List.cons_append]; exact List.mem_append_left _ ha)).2
theorem gapOf_in {x : Bx} {u a b : Int} {ls : List (Int × Int)} (h : OkL u ls) (u0 : 0 ≤ u) (e : gapOf x ls u = some (a, b)) : 0 ≤ a ∧ a + x.k < b ∧ b ≤ u := by
  obtain ⟨h1, pre, post, h2, _⟩ := gap_at e
  have hm := (line_le (x := x) h u0).2
  rw [h2] at hm
  have ha := hm a (by simp)
  have hb := hm b (by simp)
  omega
theorem lost_small {hs : List Bx} {u : Int} {ls : List (Int × Int)} (h : OkL u ls) (u0 : 0 ≤ u) (u1 : u ≤ 2000) (ho : ∀ x ∈ hs, x.Ok) (hh : hs.length ≤ 16) : ∀ r ∈ lost hs ls u, ∀ z ∈ r, z.natAbs < 10 ^ 18 := fun r hr z hz => by
  obtain ⟨⟨x, i⟩, hp, q⟩ := List.mem_flatMap.mp hr
  unfold rowOf at q
  split at q
  · rename_i a b e
    rw [List.mem_singleton.mp q] at hz
    have hb := gapOf_in h u0 e
    have hx := ho x (List.mem_of_getElem? (List.mem_zipIdx_iff_getElem?.mp hp))
    have hi : i < hs.length := by
      have := (List.getElem?_eq_some_iff.mp (List.mem_zipIdx_iff_getElem?.mp hp)).1
      exact this
    have k0 := hx.k0
    have k1 := hx.k1
    simp only [List.mem_cons, List.not_mem_nil, or_false] at hz
    simp only at hb
    rcases hz with rfl | rfl | rfl | rfl <;> omega
  · cases q
theorem depth_rows : ∀ rs : List (List Int), PyData.depthAll (rs.map tIs) ≤ 1
  | [] => by decide
  | r :: q => by
    show max (PyData.depth (tI r)) (PyData.depthAll (q.map tIs)) ≤ 1
    rw [depth_tI]
    have := depth_rows q
    omega
theorem nice_rows {rs : List (List Int)} (h : ∀ r ∈ rs, ∀ z ∈ r, z.natAbs < 10 ^ 18) : nice (.list (rs.map tIs)) = true := niceAll_iff.mpr fun d hd => by
  obtain ⟨r, hr, rfl⟩ := List.mem_map.mp hd
  exact nice_ints (h r hr)
theorem s_told_loss {hs : List Bx} {u : Int} {ls : List (Int × Int)} (h : OkL u ls) (u0 : 0 ≤ u) (u1 : u ≤ 2000) (ho : ∀ x ∈ hs, x.Ok) (hh : hs.length ≤ 16) : ∃ d, g_told_loss [.tuple (hs.map bxD), .tuple (ls.map leD), .int u] = some d ∧
    ((lost hs ls u = [] ∧ d = .none) ∨ ∃ l a b c : Int, d = tIs [l, a, b, c] ∧ [l, a, b, c] ∈ lost hs ls u ∧ ∀ q ∈ lost hs ls u, l ≤ q.headD 0) := by
  have e := (forF_fold (f := fun l x => ((un2 some some) x).bind (L2_told_loss (.tuple (ls.map leD)) (.int u) l)) (fun p : Bx × Nat => .tuple [.int (p.2 : Nat), bxD p.1]) (fun F : List (List Int) => F.map tIs) (fun F p => F ++ rowOf ls u p) (fun i F => F.length ≤ i) hs.zipIdx [] 0 (Nat.le_refl _) fun i p F hi hF => by
    have hi' : i < hs.length := by
      have := (List.getElem?_eq_some_iff.mp hi).1
      rwa [List.length_zipIdx] at this
    refine ⟨?_, ?_⟩
    · have q := s_loss_box (x := p.1) h p.2 (F.map tIs) (by rw [List.length_map]; omega)
      rw [un2_s, Option.bind_some, Option.map_some, Option.bind_some, q, List.map_append]
    · have := row_len ls u p
      rw [List.length_append]
      omega).1
  rw [fold_flat, List.nil_append] at e
  have en := enum_hold hs
  have l0 : lenOk (some ([] : List D)) = some [] := rfl
  by_cases hz : lost hs ls u = []
  · refine ⟨.none, ?_, .inl ⟨hz, rfl⟩⟩
    have e' : forF (fun l x => ((un2 some some) x).bind (L2_told_loss (.tuple (ls.map leD)) (.int u) l)) (hs.zipIdx.map fun p : Bx × Nat => .tuple [.int (p.2 : Nat), bxD p.1]) [] = some (.nx []) := by
      have q : hs.zipIdx.flatMap (rowOf ls u) = [] := hz
      rw [q] at e
      exact e
    have e9 : dNe (.list []) (.list []) = some (.bool false) := rfl
    simp [g_told_loss, b_told_loss, B_told_loss, en, l0, e', e9]
  · obtain ⟨m, h1, h2, h3⟩ := dMin_rows (lost hs ls u) (fun r hr => by obtain ⟨l, a, b, c, rfl⟩ := lost_ne r hr; exact List.cons_ne_nil _ _) hz
    obtain ⟨l, a, b, c, rfl⟩ := lost_ne m h2
    refine ⟨_, ?_, .inr ⟨l, a, b, c, rfl, h2, h3⟩⟩
    have e' : forF (fun l x => ((un2 some some) x).bind (L2_told_loss (.tuple (ls.map leD)) (.int u) l)) (hs.zipIdx.map fun p : Bx × Nat => .tuple [.int (p.2 : Nat), bxD p.1]) [] = some (.nx ((lost hs ls u).map tIs)) := e
    have e9 : dNe (.list ((lost hs ls u).map tIs)) (.list []) = some (.bool true) := by
      have hd : PyData.depth (.list ((lost hs ls u).map tIs)) ≤ 64 := by
        show PyData.depthAll _ + 1 ≤ 64
        have := depth_rows (lost hs ls u)
        omega
      rw [dNe_nice (nice_rows (lost_small h u0 u1 ho hh)) rfl hd (by decide)]
      match lost hs ls u, hz with
      | r :: q, _ => rfl
    simp [g_told_loss, b_told_loss, B_told_loss, en, l0, e', e9, h1]
end DL

set_option Elab.async false
set_option linter.all false
set_option maxRecDepth 100000
set_option maxHeartbeats 2000000
set_option autoImplicit false
namespace DL
open PySem PySem.Spec PyProof.Rows L2 K75
/-! ### first loss, held, what shows it -/
structure Hld (hs : List Bx) (ls : List (Int × Int)) (u : Int) : Prop where
  ok : ∀ x ∈ hs, x.Ok
  l1 : 1 ≤ hs.length
  l2 : hs.length ≤ 16
  u0 : 0 ≤ u
  u1 : u ≤ 200
  le : OkL u ls
abbrev hoD (hs : List Bx) : D := .tuple (hs.map bxD)
abbrev lsD (ls : List (Int × Int)) : D := .tuple (ls.map leD)
theorem Hld.look {hs : List Bx} {ls : List (Int × Int)} {u : Int} (h : Hld hs ls u) : g_look_at_letters [hoD hs, lsD ls, .int u] = some .none := s_look_letters h.ok h.l1 h.l2 h.u0 (by have := h.u1; omega) h.le
theorem Hld.one {hs : List Bx} {ls : List (Int × Int)} {u : Int} (h : Hld hs ls u) {x : Bx} (hx : x ∈ hs) : Hld [x] ls u := ⟨fun y hy => by rw [List.mem_singleton.mp hy]; exact h.ok x hx, Nat.le_refl 1, (show 1 ≤ 16 by decide), h.u0, h.u1, h.le⟩
theorem tIs_0 (l : Int) (r : List Int) : dIx (tIs (l :: r)) (.int 0) = some (.int l) := by simp [tIs]
theorem s_first {hs : List Bx} {ls : List (Int × Int)} {u : Int} (h : Hld hs ls u) : (lost hs ls u = [] ∧ g_first_loss [hoD hs, lsD ls, .int u] = some .none) ∨ ∃ r ∈ lost hs ls u, (∀ q ∈ lost hs ls u, r.headD 0 ≤ q.headD 0) ∧ g_first_loss [hoD hs, lsD ls, .int u] = some (.int (r.headD 0)) := by
  have e := h.look
  obtain ⟨d, e1, h1 | ⟨l, a, b, c, rfl, h2, h3⟩⟩ := s_told_loss h.le h.u0 (by have := h.u1; omega) h.ok h.l2
  · obtain ⟨h1, rfl⟩ := h1
    exact .inl ⟨h1, by simp [g_first_loss, b_first_loss, B_first_loss, e, e1]⟩
  · refine .inr ⟨_, h2, h3, ?_⟩
    simp [g_first_loss, b_first_loss, B_first_loss, e, e1, tIs]
theorem lost_one (x : Bx) (ls : List (Int × Int)) (u : Int) : lost [x] ls u = rowOf ls u (x, 0) := by simp [lost]
theorem s_first1 {x : Bx} {ls : List (Int × Int)} {u : Int} (h : Hld [x] ls u) : g_first_loss [hoD [x], lsD ls, .int u] = some (match gapOf x ls u with | some (a, b) => .int (a + x.k + 1) | none => .none) := by
  have e := s_first h
  rw [lost_one] at e
  unfold rowOf at e
  simp only at e
  generalize gapOf x ls u = g at e
  match g, e with
  | none, e => simpa using e
  | some (a, b), e => simpa using e
theorem nice_held : nice (.str "held") = true := by decide +kernel
theorem nice_lost : nice (.str "lost") = true := by decide +kernel
theorem nice_heldT : nice (.tuple [.str "held"]) = true := by
  show (nice (.str "held") && true) = true
  rw [nice_held]; rfl
theorem nice_lostT {a b c : Int} (h1 : a.natAbs < 10 ^ 18) (h2 : b.natAbs < 10 ^ 18) (h3 : c.natAbs < 10 ^ 18) : nice (.tuple [.str "lost", .int a, .int b, .int c]) = true := by
  show (nice (.str "lost") && (nice (.int a) && (nice (.int b) && (nice (.int c) && true)))) = true
  rw [nice_lost, nice_int h1, nice_int h2, nice_int h3]
  rfl
theorem s_held1 {x : Bx} {ls : List (Int × Int)} {u : Int} (h : Hld [x] ls u) : bin dEq (g_held [hoD [x], lsD ls, .int u]) (some (.tuple [.str "held"])) = some (.bool (gapOf x ls u).isNone) := by
  have e := h.look
  obtain ⟨d, e1, h1⟩ := s_told_loss h.le h.u0 (by have := h.u1; omega) h.ok h.l2
  rw [lost_one] at h1
  unfold rowOf at h1
  simp only at h1
  cases hg : gapOf x ls u with
  | none =>
    rw [hg] at h1
    have hd : d = .none := by simpa using h1
    subst hd
    have e2 : g_held [hoD [x], lsD ls, .int u] = some (.tuple [.str "held"]) := by
      have e9 : lenOk (some [PyData.str "held"]) = some [.str "held"] := rfl
      simp [g_held, b_held, B_held, e, e1, e9]
    rw [e2, bin_s, dEq_self nice_heldT (by decide)]
    rfl
  | some g =>
    obtain ⟨a, b⟩ := g
    rw [hg] at h1
    obtain ⟨l, a', b', c', rfl, h2, h3⟩ : ∃ l a b c : Int, d = tIs [l, a, b, c] ∧ _ := by simpa using h1
    have e2 : g_held [hoD [x], lsD ls, .int u] = some (.tuple [.str "lost", .int a', .int b', .int c']) := by
      have e9 : ∀ p q r : D, lenOk (some [PyData.str "lost", p, q, r]) = some [.str "lost", p, q, r] := fun _ _ _ => rfl
      have e8 : ∀ p q r : D, consO (some (PyData.str "lost")) (starO (some (.tuple [p, q, r])) (some [])) = some [.str "lost", p, q, r] := fun _ _ _ => rfl
      simp [g_held, b_held, B_held, e, e1, e9, e8, tIs]
    have hb := gapOf_in h.le h.u0 hg
    have hx := h.ok x List.mem_cons_self
    have k0 := hx.k0
    have k1 := hx.k1
    have u1 := h.u1
    have e3 : l = a + x.k + 1 ∧ a' = 0 ∧ b' = a ∧ c' = b := by simpa using h2
    obtain ⟨_, rfl, rfl, rfl⟩ := e3
    have n1 := nice_lostT (a := 0) (b := b') (c := c') (by decide) (by omega) (by omega)
    rw [e2, bin_s, dEq_nice n1 nice_heldT (by simp [PyData.depth, PyData.depthAll]) (by decide)]
    simp [PyData.eqv, PyData.eqvAll]
end DL

set_option Elab.async false
set_option linter.all false
set_option maxRecDepth 100000
set_option maxHeartbeats 2000000
set_option autoImplicit false
namespace DL
open PySem PySem.Spec PyProof.Rows L2 K75
/-! ### what shows a loss -/
theorem zip_ints (l m : List Int) : zip2L (l.map .int) (m.map .int) = (l.zip m).map fun p => tIs [p.1, p.2] := by
  unfold zip2L
  rw [List.zip_map, List.map_map]
  rfl
theorem zip_mem {α : Type} (a b : α) (post : List α) : ∀ pre : List α, (a, b) ∈ (pre ++ a :: b :: post).zip ((pre ++ a :: b :: post).drop 1)
  | [] => by simp
  | [x] => by simp
  | x :: y :: r => by
    have ih := zip_mem a b post (y :: r)
    simp only [List.cons_append, List.drop_succ_cons, List.drop_zero, List.zip_cons_cons, List.mem_cons] at ih ⊢
    exact .inr ih
theorem in_rows {rs : List (Int × Int)} {p : Int × Int} (h : p ∈ rs) (hn : ∀ q ∈ rs, q.1.natAbs < 10 ^ 18 ∧ q.2.natAbs < 10 ^ 18) : dIn (.tuple [.int p.1, .int p.2]) (.list (rs.map fun p => tIs [p.1, p.2])) = some (.bool true) := by
  have n1 : ∀ q ∈ rs, nice (tIs [q.1, q.2]) = true := fun q hq => nice_ints (xs := [q.1, q.2]) fun x hx => by
    have := hn q hq
    simp only [List.mem_cons, List.not_mem_nil, or_false] at hx
    rcases hx with rfl | rfl
    · exact this.1
    · exact this.2
  have n2 : nice (.list (rs.map fun p => tIs [p.1, p.2])) = true := niceAll_iff.mpr fun d hd => by
    obtain ⟨q, hq, rfl⟩ := List.mem_map.mp hd
    exact n1 q hq
  have d2 : PyData.depth (.list (rs.map fun p => tIs [p.1, p.2])) ≤ 64 := by
    have e : (rs.map fun p => tIs [p.1, p.2]) = (rs.map fun p => [p.1, p.2]).map tIs := by rw [List.map_map]; rfl
    show PyData.depthAll _ + 1 ≤ 64
    rw [e]
    have := depth_rows (rs.map fun p => [p.1, p.2])
    omega
  have c : (SeqAt.shaped (.tuple [.int p.1, .int p.2]) && SeqAt.shaped (.list (rs.map fun p => tIs [p.1, p.2]))) = true := by
    have s1 : SeqAt.shaped (.tuple [.int p.1, .int p.2]) = true := shaped_nice (n1 p h) (by show (tI [p.1, p.2]).depth ≤ 64; rw [depth_tI]; decide)
    rw [s1, shaped_nice n2 d2]
    rfl
  refine (if_pos c).trans ?_
  congr 2
  rw [List.any_eq_true]
  exact ⟨_, List.mem_map.mpr ⟨p, h, rfl⟩, eqv_refl _ (n1 p h)⟩
theorem s_told4 (a b c : Int) : g_is_told [.tuple [.str "lost", .int a, .int b, .int c], .tuple [.int 1, .int 4]] = some (.bool true) := by
  have e : dIn (.int 4) (.tuple [.int 1, .int 4]) = some (.bool true) := by
    have c : (flatD (.int 4) && [PyData.int 1, .int 4].all flatD) = true := rfl
    show (if (flatD (.int 4) && [PyData.int 1, .int 4].all flatD) = true then some (PyData.bool ([PyData.int 1, .int 4].any fun z => PyData.eqv z (.int 4))) else none) = _
    rw [if_pos c, List.any_cons, List.any_cons, eqv_ii, eqv_ii]
    rfl
  simp [g_is_told, b_is_told, B_is_told, e]
theorem s_shows {hs : List Bx} {ls : List (Int × Int)} {u : Int} (h : Hld hs ls u) {i : Nat} {x : Bx} (hi : hs[i]? = some x) {a b : Int} (hg : gapOf x ls u = some (a, b)) :
    g_shows_held [hoD hs, lsD ls, .int u, .tuple [.str "lost", .int (i : Nat), .int a, .int b]] = some (.bool true) := by
  obtain ⟨hl, hx⟩ := List.getElem?_eq_some_iff.mp hi
  have hm : x ∈ hs := List.mem_of_getElem? hi
  have hb := gapOf_in h.le h.u0 hg
  have ok := h.ok x hm
  have k0 := ok.k0
  have k1 := ok.k1
  have u1 := h.u1
  have l2 := h.l2
  have e1 := h.look
  have e2 := s_told4 (i : Nat) a b
  have e3 := s_int (x := (i : Nat)) (lo := 0) (hi := (hs.length : Nat) - 1) (by omega) (by omega)
  have e4 := s_int (x := a) (lo := 0) (hi := u) hb.1 (by omega)
  have e5 := s_int (x := b) (lo := a) (hi := u) (by omega) hb.2.2
  have e6 : dIx (hoD hs) (.int (i : Nat)) = some (bxD x) := by
    have q := ix_t (ds := hs.map bxD) (k := i) (by rw [List.length_map]; exact hl)
    rw [q, List.getElem_map, hx]
  have e7 := s_ticks (x := x) h.le
  have pl := pick_len x ls
  have hn := h.le.len
  have e8 : lenOk (starO (some (.list ((0 :: pick x ls).map .int))) (some [.int u])) = some ((0 :: (pick x ls ++ [u])).map .int) := by
    show lenOk (some ((0 :: pick x ls).map .int ++ [.int u])) = _
    rw [lenOk_s (by simp; omega)]
    simp
  obtain ⟨_, pre, post, hp, _⟩ := gap_at hg
  have hin := (line_le (x := x) h.le h.u0).2
  have e9 : dIn (.tuple [.int a, .int b]) (.list (zip2L ((0 :: (pick x ls ++ [u])).map .int) (((0 :: (pick x ls ++ [u])).map .int).drop 1))) = some (.bool true) := by
    rw [← List.map_drop, zip_ints]
    refine in_rows (p := (a, b)) (by rw [hp]; exact zip_mem a b post pre) fun q hq => ?_
    have q1 := hin q.1 (List.of_mem_zip hq).1
    have q2 := hin q.2 (List.mem_of_mem_drop (List.of_mem_zip hq).2)
    omega
  have e10 : lenOk (some [PyData.int a, PyData.int b]) = some [.int a, .int b] := rfl
  have e11 : lenOk (some [PyData.int 1, PyData.int 4]) = some [.int 1, .int 4] := rfl
  have e12 : dIx (bxD x) (.int 1) = some (.int x.k) := by simp [bxD]
  have hk : x.k < b - a := by omega
  have e13 : dLen [hoD hs] = some (.int (hs.length : Nat)) := by rw [dLen_t, List.length_map]
  generalize ((0 :: (pick x ls ++ [u])).map PyData.int) = Z at e8 e9
  generalize hoD hs = HS at e1 e6 e13 ⊢
  generalize bxD x = BX at e6 e7 e12
  simp only [List.map_cons] at e8
  simp [-List.drop_one, -Option.map_bind, g_shows_held, b_shows_held, B_shows_held, e1, e2, e3, e4, e5, e6, e7, e8, e9, e10, e11, e12, e13, hk]
end DL

set_option Elab.async false
set_option linter.all false
set_option maxRecDepth 100000
set_option maxHeartbeats 2000000
set_option autoImplicit false
namespace DL
open PySem PySem.Spec PyProof.Rows L2 K75
/-! ### stays -/
def till (x : Bx) (ls : List (Int × Int)) (u : Int) : List Int := (0 :: pick x ls).filter fun t => decide (t < u)
def stay (k u t : Int) : Int × Int := (t + 1, min u (t + k) + 1)
abbrev stD (k u t : Int) : D := .tuple [.int (t + 1), .int (min u (t + k) + 1)]
theorem fold_filter {α β : Type} (c : α → Bool) (f : α → β) : ∀ (xs : List α) (acc : List β), xs.foldl (fun acc p => if c p then acc ++ [f p] else acc) acc = acc ++ (xs.filter c).map f
  | [], acc => by simp
  | x :: r, acc => by
    rw [List.foldl_cons, fold_filter c f r, List.filter_cons]
    cases c x <;> simp
theorem s_stays {x : Bx} {ls : List (Int × Int)} {u : Int} (h : OkL u ls) : g__law_stays [bxD x, lsD ls, .int u] = some (.tuple ((till x ls u).map (stD x.k u))) := by
  have e1 := s_uses (x := x) h
  have pl := pick_len x ls
  have hn := h.len
  have e := (forF_fold (f := fun l y => (some y).bind (L1__law_stays (bxD x) (.int u) l)) (fun t : Int => PyData.int t) (fun F : List D => F) (fun F t => if decide (t < u) then F ++ [stD x.k u t] else F) (fun i F => F.length ≤ i) (0 :: pick x ls) [] 0 (Nat.le_refl _) fun i t F hi hF => by
    have hi' : i < (0 :: pick x ls).length := (List.getElem?_eq_some_iff.mp hi).1
    rw [List.length_cons] at hi'
    have l2 : ∀ p q : D, lenOk (some [p, q]) = some [p, q] := fun _ _ => rfl
    refine ⟨?_, ?_⟩
    · by_cases hc : t < u
      · simp [L1__law_stays, bxD, hc, l2, appD_s (show F.length < 100000 by omega)]
      · simp [L1__law_stays, bxD, hc]
    · split
      · rw [List.length_append]; simp; omega
      · omega).1
  rw [fold_filter, List.nil_append] at e
  have l0 : lenOk (some ([] : List D)) = some [] := rfl
  simp only [Option.bind_some] at e
  generalize bxD x = BX at e1 e ⊢
  unfold g__law_stays
  simp only [b__law_stays]
  unfold B__law_stays
  simp only [l0, Option.bind_some, consO_s, e1, Option.map_some, iterS_l, e, seqLp_nx, dTuple_l, finP_rt]
  rfl
/-! where no stay is -/
structure Sts (k u : Int) (V : List Int) : Prop where
  k0 : 1 ≤ k
  k1 : k ≤ 40
  u1 : u ≤ 200
  le : ∀ t ∈ V, 0 ≤ t ∧ t < u
  len : V.length ≤ 40
theorem s_ints2 {a b : Int} (h1 : 0 ≤ a) (h2 : a ≤ 1000000) (h3 : 0 ≤ b) (h4 : b ≤ 1000000) : g_are_ints [.tuple [.int a, .int b], .int 0, .int 1000000] = some (.bool true) := by
  have e1 := s_int (x := a) (lo := 0) (hi := 1000000) h1 h2
  have e2 := s_int (x := b) (lo := 0) (hi := 1000000) h3 h4
  have e : lcF some (fun _ : D => some true) (fun p1 : D => (g_is_int [p1, .int 0, .int 1000000])) [.int a, .int b] = some [.bool true, .bool true] := by
    have := lcF_all (pm := some) (me := fun p1 : D => (g_is_int [p1, .int 0, .int 1000000])) (fun i : Int => .int i) (fun _ => PyData.bool true) [a, b] fun i hi => ⟨_, rfl, by
      simp only [List.mem_cons, List.not_mem_nil, or_false] at hi
      rcases hi with rfl | rfl
      · exact e1
      · exact e2⟩
    simpa using this
  have l2 : lenOk (some [PyData.bool true, PyData.bool true]) = some [.bool true, .bool true] := rfl
  have e3 : dAll [.list [.bool true, .bool true]] = some (.bool true) := rfl
  simp [g_are_ints, b_are_ints, B_are_ints, e, l2, e3]
theorem s_look_stays {k u : Int} {V : List Int} (h : Sts k u V) : g_look_at_stays [.tuple (V.map (stD k u))] = some .none := by
  have e := (forF_fold (f := fun l y => (some y).bind (L1_are_stays l)) (stD k u) (fun l : Unit => l) (fun l _ => l) (fun _ _ => True) V () 0 trivial fun i t s hi _ => by
    have ht := h.le t (List.mem_of_getElem? hi)
    have k0 := h.k0
    have k1 := h.k1
    have u1 := h.u1
    have q := s_ints2 (a := t + 1) (b := min u (t + k) + 1) (by omega) (by omega) (by omega) (by omega)
    have hlt : ¬ (min u (t + k) + 1 ≤ t + 1) := by omega
    exact ⟨by simp [L1_are_stays, stD, q, hlt], trivial⟩).1
  simp only [Option.bind_some] at e
  have hl : ¬ (40 : Int) < (V.length : Nat) := by have := h.len; omega
  have ea : g_are_stays [.tuple (V.map (stD k u))] = some (.bool true) := by
    simp [g_are_stays, b_are_stays, B_are_stays, hl, e]
  simp [g_look_at_stays, b_look_at_stays, B_look_at_stays, ea]
theorem s_there {k u : Int} {V : List Int} (h : Sts k u V) {y : Int} (y0 : 0 ≤ y) (y1 : y ≤ u) : ∃ L : List Int, g_there_at [.tuple (V.map (stD k u)), .int y] = some (.tuple (L.map .int)) ∧ (L = [] ↔ ¬ Cov k V y) ∧ ∀ i ∈ L, i.natAbs < 10 ^ 18 := by
  have e1 := s_look_stays h
  have u1 := h.u1
  have e2 := s_int (x := y) (lo := 0) (hi := 1000000) y0 (by omega)
  have en : enumD (.tuple (V.map (stD k u))) = some (V.zipIdx.map fun p => .tuple [.int (p.2 : Nat), stD k u p.1]) := by
    show some ((V.map (stD k u)).zipIdx.map _) = _
    rw [List.zipIdx_map, List.map_map]
    rfl
  have e := lcF_map (pm := un2 some (un2 some some)) (mt := fun p1 : (D × (D × D)) => ((chainO dLe dLt (some p1.2.1) (some (.int y)) (some p1.2.2)).bind isB)) (me := fun p1 : (D × (D × D)) => (some p1.1)) (fun p : Int × Nat => .tuple [.int (p.2 : Nat), stD k u p.1]) (fun p => decide (p.1 + 1 ≤ y) && decide (y < min u (p.1 + k) + 1)) (fun p => .int (p.2 : Nat)) V.zipIdx fun p hp => ⟨(.int (p.2 : Nat), .int (p.1 + 1), .int (min u (p.1 + k) + 1)), rfl, by
    by_cases c : p.1 + 1 ≤ y <;> simp [chainO, c], fun _ => rfl⟩
  refine ⟨(V.zipIdx.filter fun p => decide (p.1 + 1 ≤ y) && decide (y < min u (p.1 + k) + 1)).map (fun p => ((p.2 : Nat) : Int)), ?_, ?_, ?_⟩
  · have hl : (V.zipIdx.filter fun p => decide (p.1 + 1 ≤ y) && decide (y < min u (p.1 + k) + 1)).length ≤ V.length := by
      have := List.length_filter_le (fun p : Int × Nat => decide (p.1 + 1 ≤ y) && decide (y < min u (p.1 + k) + 1)) V.zipIdx
      rwa [List.length_zipIdx] at this
    have hV := h.len
    have e3 : g_told_there [.tuple (V.map (stD k u)), .int y] = some ((V.zipIdx.filter fun p => decide (p.1 + 1 ≤ y) && decide (y < min u (p.1 + k) + 1)).map (fun p => PyData.int (p.2 : Nat))) := by
      unfold g_told_there
      simp only [b_told_there]
      unfold B_told_there
      rw [Option.bind_some, en, Option.bind_some, e, lenOk_s (by rw [List.length_map]; omega)]
      rfl
    generalize (PyData.tuple (V.map (stD k u))) = S at e1 e3 ⊢
    simp [-List.map_map, g_there_at, b_there_at, B_there_at, e1, e2, e3]
    rw [List.map_map]
    rfl
  · rw [List.map_eq_nil_iff, List.filter_eq_nil_iff]
    constructor
    · rintro q ⟨t, ht, h1, h2⟩
      obtain ⟨i, hi, rfl⟩ := List.getElem_of_mem ht
      refine q (V[i], i) (List.mem_zipIdx_iff_getElem?.mpr (List.getElem?_eq_getElem hi)) ?_
      rw [Bool.and_eq_true, decide_eq_true_eq, decide_eq_true_eq]
      constructor <;> (simp only; omega)
    · rintro q ⟨t, i⟩ hp hc
      rw [Bool.and_eq_true, decide_eq_true_eq, decide_eq_true_eq] at hc
      have ht := List.mem_of_getElem? (List.mem_zipIdx_iff_getElem?.mp hp)
      exact q ⟨t, ht, by simp only at hc; omega, by simp only at hc; omega⟩
  · intro i hi
    obtain ⟨p, hp, rfl⟩ := List.mem_map.mp hi
    have hp' := (List.mem_filter.mp hp).1
    have := (List.getElem?_eq_some_iff.mp (List.mem_zipIdx_iff_getElem?.mp hp')).1
    have hV := h.len
    omega
end DL

set_option Elab.async false
set_option linter.all false
set_option maxRecDepth 100000
set_option maxHeartbeats 2000000
set_option autoImplicit false
namespace DL
open PySem PySem.Spec PyProof.Rows L2 K75
/-! ### the first tick without a stay -/
theorem forF_first {L R α : Type} {f : L → D → Option (Fl L L R)} {l : L} (enc : α → D) (bad : α → Bool) (res : α → R) : ∀ xs : List α, (∀ a ∈ xs, f l (enc a) = some (if bad a then .rt (res a) else .nx l)) →
    forF f (xs.map enc) l = some (match xs.find? bad with | some a => .rt (res a) | none => .nx l)
  | [], _ => rfl
  | a :: r, h => by
    have h1 := h a List.mem_cons_self
    rw [List.map_cons, forF_cons, h1, List.find?_cons]
    cases bad a with
    | true => rfl
    | false => exact forF_first enc bad res r fun b hb => h b (List.mem_cons_of_mem _ hb)
theorem till_sts {x : Bx} {ls : List (Int × Int)} {u : Int} (hx : x.Ok) (h : OkL u ls) (u1 : u ≤ 200) (hl : ls.length ≤ 30) : Sts x.k u (till x ls u) := by
  refine ⟨hx.k0, hx.k1, u1, fun t ht => ?_, ?_⟩
  · obtain ⟨h1, h2⟩ := List.mem_filter.mp ht
    have h2 := of_decide_eq_true h2
    rcases List.mem_cons.mp h1 with rfl | h1
    · exact ⟨Int.le_refl _, h2⟩
    · have := (pick_up h).2 t h1
      omega
  · have := List.length_filter_le (fun t => decide (t < u)) (0 :: pick x ls)
    have pl := pick_len x ls
    rw [List.length_cons] at this
    unfold till
    omega
theorem till_cov {x : Bx} {ls : List (Int × Int)} {u y : Int} (h : y ≤ u) : Cov x.k (till x ls u) y ↔ Cov x.k (0 :: (pick x ls ++ [u])) y := by
  constructor
  · rintro ⟨t, ht, h1, h2⟩
    have := (List.mem_filter.mp ht).1
    refine ⟨t, ?_, h1, h2⟩
    rw [← List.cons_append]
    exact List.mem_append_left _ this
  · rintro ⟨t, ht, h1, h2⟩
    rw [← List.cons_append] at ht
    rcases List.mem_append.mp ht with ht | ht
    · exact ⟨t, List.mem_filter.mpr ⟨ht, decide_eq_true (by omega)⟩, h1, h2⟩
    · rw [List.mem_singleton.mp ht] at h1
      omega
theorem open_at {x : Bx} {ls : List (Int × Int)} {u : Int} (hx : x.Ok) (h : OkL u ls) (n : Nat) (hn : u = (n : Nat)) {bad : Nat → Bool} (hb : ∀ i : Nat, i < n → (bad i = true ↔ ¬ Cov x.k (till x ls u) ((i : Nat) + 1))) :
    (List.range n).find? bad = match gapOf x ls u with | some (a, b) => some (a + x.k).toNat | none => none := by
  have k0 := hx.k0
  cases hg : gapOf x ls u with
  | none =>
    simp only
    rw [List.find?_eq_none]
    intro i hi hbad
    have hi' := List.mem_range.mp hi
    refine (hb i hi').mp hbad ((till_cov (by omega)).mpr (gap_cov hg (z := u) (by rw [← List.cons_append]; exact List.mem_append_right _ List.mem_cons_self) (by omega) (by omega)))
  | some g =>
    obtain ⟨a, b⟩ := g
    simp only
    have hin := gapOf_in h (by omega) hg
    obtain ⟨h1, pre, post, h2, h3⟩ := gap_at hg
    have hp := (line_le (x := x) h (by omega)).1
    rw [h2] at hp
    rw [List.find?_range_eq_some]
    have hlt : (a + x.k).toNat < n := by omega
    refine ⟨(hb _ hlt).mpr ?_, List.mem_range.mpr hlt, fun j hj => ?_⟩
    · rw [till_cov (by omega), h2]
      rintro ⟨t, ht, q1, q2⟩
      obtain ⟨_, p2, p3⟩ := List.pairwise_append.mp hp
      obtain ⟨p4, p5⟩ := List.pairwise_cons.mp p2
      rcases List.mem_append.mp ht with ht | ht
      · have := p3 t ht a List.mem_cons_self
        omega
      · rcases List.mem_cons.mp ht with rfl | ht
        · omega
        · rcases List.mem_cons.mp ht with rfl | ht
          · omega
          · have := (List.pairwise_cons.mp p5).1 t ht
            omega
    · have hc : ¬ bad j = true := fun q => (hb j (by omega)).mp q ((till_cov (by omega)).mpr (h3 _ (fun w e => by cases e; omega) (by omega)))
      simpa using hc
theorem s_open {x : Bx} {ls : List (Int × Int)} {u : Int} (hx : x.Ok) (h : OkL u ls) (u0 : 0 ≤ u) (u1 : u ≤ 200) (hl : ls.length ≤ 30) :
    g__law_first_open [.tuple ((till x ls u).map (stD x.k u)), .int u] = some (match gapOf x ls u with | some (a, b) => .int (a + x.k + 1) | none => .none) := by
  obtain ⟨n, rfl⟩ := Int.eq_ofNat_of_zero_le u0
  have S := till_sts hx h u1 hl
  have hr : dR2 (.int 1) (.int ((n : Nat) + 1)) = some ((List.range n).map fun i => .int ((i : Nat) + 1)) := by
    refine (if_pos (Bool.and_eq_true_iff.mpr ⟨cl_iff.mpr (by omega), cl_iff.mpr (by omega)⟩)).trans ?_
    unfold rangeL
    rw [show ((n : Int) + 1 - 1).toNat = n by omega]
    congr 1
    refine List.map_congr_left fun i _ => ?_
    rw [Int.add_comm]
  have ex : ∀ i : Nat, ∃ t : Bool, i < n → (t = true ↔ ¬ Cov x.k (till x ls n) ((i : Nat) + 1)) ∧ bin dEq (g_there_at [.tuple ((till x ls n).map (stD x.k n)), .int ((i : Nat) + 1)]) (some (.tuple [])) = some (.bool t) := fun i => by
    by_cases hi : i < n
    · obtain ⟨L, q1, q2, q3⟩ := s_there S (y := (i : Nat) + 1) (by omega) (by omega)
      refine ⟨decide (L = []), fun _ => ⟨by rw [decide_eq_true_eq]; exact q2, ?_⟩⟩
      have e := dEq_nice (a := .tuple (L.map .int)) (b := .tuple []) (nice_ints q3) rfl (by show (tI L).depth ≤ 64; rw [depth_tI]; decide) (by decide)
      rw [q1, bin_s, e]
      have := eqv_tI L []
      rw [show PyData.eqv (.tuple (L.map .int)) (.tuple []) = decide (L = []) from this]
    · exact ⟨true, fun z => absurd z hi⟩
  have ⟨bad, hb⟩ := Classical.axiomOfChoice ex
  have e := forF_first (f := fun l y => (some y).bind (L1__law_first_open (.tuple ((till x ls n).map (stD x.k n))) l)) (l := ()) (fun i : Nat => .int ((i : Nat) + 1)) bad (fun i => (.int ((i : Nat) + 1) : D)) (List.range n) fun i hi => by
    have q := (hb i (List.mem_range.mp hi)).2
    generalize (PyData.tuple ((till x ls n).map (stD x.k n))) = Z at q ⊢
    cases hbad : bad i <;> rw [hbad] at q <;> simp [L1__law_first_open, q, show lenOk (some ([] : List D)) = some [] from rfl]
  rw [open_at hx h n rfl fun i hi => (hb i hi).1] at e
  generalize (PyData.tuple ((till x ls n).map (stD x.k n))) = Z at e ⊢
  simp only [Option.bind_some] at e
  cases hg : gapOf x ls n with
  | none =>
    rw [hg] at e
    simp [g__law_first_open, b__law_first_open, B__law_first_open, hr, e]
  | some g =>
    obtain ⟨a, b⟩ := g
    rw [hg] at e
    have hin := gapOf_in h u0 hg
    have k0 := hx.k0
    simp only at e
    rw [show (((a + x.k).toNat : Nat) : Int) + 1 = a + x.k + 1 by omega] at e
    simp [g__law_first_open, b__law_first_open, B__law_first_open, hr, e]
end DL

set_option Elab.async false
set_option linter.all false
set_option maxRecDepth 100000
set_option maxHeartbeats 2000000
set_option autoImplicit false
namespace DL
open PySem PySem.Spec PyProof.Rows L2 K75
/-! ### ticks used -/
theorem sorted_rows {α : Type} (f : α → List Int) {xs : List α} (hn : ∀ a ∈ xs, f a ≠ []) (hu : xs.Pairwise fun a b => f a < f b) (hl : xs.length ≤ 100000) : ∀ d, seqD d = some (xs.map fun a => tIs (f a)) → dSorted [d] = some (xs.map fun a => tIs (f a)) := fun d hd => by
  have e1 : (xs.map fun a => tIs (f a)) = (xs.map f).map tIs := by rw [List.map_map]; rfl
  have ok : sortOk (xs.map fun a => tIs (f a)) = true := by
    unfold sortOk
    have h1 : allAlike (xs.map fun a => tIs (f a)) = true := by rw [e1]; exact allAlike_tIs _
    rw [h1, decide_eq_true (by rw [List.length_map]; exact hl), Bool.true_and, Bool.true_and, Bool.or_eq_true]
    left
    rw [List.all_eq_true]
    intro d hd
    obtain ⟨a, ha, rfl⟩ := List.mem_map.mp hd
    match f a, hn a ha with
    | z :: r, _ => rfl
  have hs : sortedD (xs.map fun a => tIs (f a)) = xs.map fun a => tIs (f a) := sorted_unique (List.Perm.refl _) (by
    rw [List.pairwise_map]
    exact hu.imp fun {a b} h => (lt_tI _ _).trans (decide_eq_true h))
  show (seqD d).bind _ = _
  rw [hd, Option.bind_some, ok, Bool.true_or, if_pos rfl, hs]
theorem lt_cons {a b : Int} {r q : List Int} (h : a < b) : (a :: r) < (b :: q) := List.cons_lt_cons_iff.mpr (.inl h)
theorem s_used {k u : Int} {V : List Int} (h : Sts k u V) (hu : V.Pairwise (· < ·)) : g_ticks_used [.tuple (V.map (stD k u))] = some (.int (V.foldl (used u k) (0, 0)).1) := by
  have e1 := s_look_stays h
  have hV := h.len
  have es : dSorted [.tuple (V.map (stD k u))] = some (V.map (stD k u)) := sorted_rows (fun t => [t + 1, min u (t + k) + 1]) (fun a _ => List.cons_ne_nil _ _) (hu.imp fun h => lt_cons (by omega)) (by omega) _ rfl
  have e := (forF_fold (f := fun l y => ((un2 some some) y).bind (L1_ticks_used l)) (stD k u) (fun s : Int × Int => ((.int s.1, .int s.2) : D × D)) (used u k) (fun _ _ => True) V (0, 0) 0 trivial fun i t s hi _ => ⟨by simp [L1_ticks_used, iAdd, used], trivial⟩).1
  have l2 : ∀ p q : D, lenOk (some [p, q]) = some [p, q] := fun _ _ => rfl
  generalize (PyData.tuple (V.map (stD k u))) = Z at e1 es ⊢
  simp [g_ticks_used, b_ticks_used, B_ticks_used, e1, es, l2, e]
/-- what ascends to u: with u last or without u -/
theorem below_or {u : Int} : ∀ {l : List Int}, l.Pairwise (· < ·) → (∀ t ∈ l, t ≤ u) → l = l.filter (fun t => decide (t < u)) ∨ l = l.filter (fun t => decide (t < u)) ++ [u]
  | [], _, _ => .inl rfl
  | x :: r, hp, hl => by
    obtain ⟨h1, h2⟩ := List.pairwise_cons.mp hp
    have hx := hl x List.mem_cons_self
    by_cases hlt : x < u
    · rw [List.filter_cons, decide_eq_true hlt, if_pos rfl]
      rcases below_or h2 (fun t ht => hl t (List.mem_cons_of_mem _ ht)) with e | e
      · exact .inl (by rw [← e])
      · exact .inr (by rw [List.cons_append, ← e])
    · have hr : r = [] := by
        cases r with
        | nil => rfl
        | cons y q =>
          have := h1 y List.mem_cons_self
          have := hl y (by simp)
          omega
      subst hr
      rw [List.filter_cons, decide_eq_false hlt]
      exact .inr (by simp; omega)
theorem used_gap {x : Bx} {ls : List (Int × Int)} {u : Int} (hx : x.Ok) (h : OkL u ls) (u0 : 0 ≤ u) : ((till x ls u).foldl (used u x.k) (0, 0)).1 = u ↔ gapOf x ls u = none := by
  obtain ⟨h1, h2⟩ := pick_up (x := x) h
  have k0 := hx.k0
  by_cases hz : u = 0
  · subst hz
    have hp : pick x ls = [] := by
      cases hq : pick x ls with
      | nil => rfl
      | cons t r =>
        have := h2 t (by rw [hq]; exact List.mem_cons_self)
        omega
    unfold till gapOf
    rw [hp]
    simp [gap]
    omega
  · have hpos : 0 < u := by omega
    have et : till x ls u = 0 :: (pick x ls).filter (fun t => decide (t < u)) := by
      unfold till
      rw [List.filter_cons, decide_eq_true hpos, if_pos rfl]
    have eg : gapOf x ls u = gap x.k (0 :: ((pick x ls).filter (fun t => decide (t < u)) ++ [u])) := by
      unfold gapOf
      rcases below_or (List.pairwise_cons.mp h1).2 (fun t ht => (h2 t ht).2) with e | e
      · rw [← e]
      · have := gap_two (k := x.k) (u := u) (by omega) (0 :: (pick x ls).filter (fun t => decide (t < u)))
        rw [List.cons_append, List.cons_append] at this
        rw [← this]
        conv => lhs; rw [e]
        rw [List.append_assoc]
        rfl
    rw [et, eg]
    refine used_top k0 hpos ?_ fun t ht => of_decide_eq_true (List.mem_filter.mp ht).2
    rw [← et]
    exact h1.filter _
theorem s_used_x {x : Bx} {ls : List (Int × Int)} {u : Int} (hx : x.Ok) (h : OkL u ls) (u0 : 0 ≤ u) (u1 : u ≤ 200) (hl : ls.length ≤ 30) : ∃ t : Int, g_ticks_used [.tuple ((till x ls u).map (stD x.k u))] = some (.int t) ∧ (t = u ↔ gapOf x ls u = none) :=
  ⟨_, s_used (till_sts hx h u1 hl) ((pick_up h).1.filter _), used_gap hx h u0⟩
end DL

set_option Elab.async false
set_option linter.all false
set_option maxRecDepth 100000
set_option maxHeartbeats 4000000
set_option autoImplicit false
namespace DL
open PySem PySem.Spec PyProof.Rows L2 K75
/-! ### all boxes -/
theorem split_last {α : Type} {U q r : List α} {u b : α} (h : U ++ [u] = q ++ b :: r) : ∃ init, b :: r = init ++ [u] ∧ U = q ++ init := by
  have hne : b :: r ≠ [] := List.cons_ne_nil _ _
  have e := List.dropLast_concat_getLast hne
  have h2 : U ++ [u] = (q ++ (b :: r).dropLast) ++ [(b :: r).getLast hne] := by rw [List.append_assoc, e]; exact h
  obtain ⟨h3, h4⟩ := List.append_inj' h2 rfl
  refine ⟨(b :: r).dropLast, ?_, h3⟩
  rw [(List.cons.inj h4).1]
  exact e.symm
theorem around {x : Bx} {ls : List (Int × Int)} {u a b : Int} (hx : x.Ok) (h : OkL u ls) (u0 : 0 ≤ u) (hg : gapOf x ls u = some (a, b)) :
    ∃ pre post, (0 :: pick x ls).filter (fun t => decide (t < a + x.k + 1)) = pre ++ [a] ∧ (0 :: pick x ls).filter (fun t => decide (a + x.k + 1 ≤ t)) ++ [u] = b :: post ∧ ∀ t ∈ post, b ≤ t := by
  obtain ⟨h1, pre, post, h2, _⟩ := gap_at hg
  have hp := (line_le (x := x) h u0).1
  have k0 := hx.k0
  rw [h2] at hp
  rw [← List.cons_append] at h2
  have h2' : (0 :: pick x ls) ++ [u] = (pre ++ [a]) ++ b :: post := by rw [h2]; simp
  obtain ⟨init, e1, e2⟩ := split_last h2'
  obtain ⟨_, p2, p3⟩ := List.pairwise_append.mp hp
  obtain ⟨p4, p5⟩ := List.pairwise_cons.mp p2
  obtain ⟨p6, p7⟩ := List.pairwise_cons.mp p5
  have lo : ∀ t ∈ pre ++ [a], t < a + x.k + 1 := fun t ht => by
    rcases List.mem_append.mp ht with ht | ht
    · have := p3 t ht a List.mem_cons_self; omega
    · rw [List.mem_singleton.mp ht]; omega
  have hi : ∀ t ∈ init, a + x.k + 1 ≤ t := fun t ht => by
    have : t ∈ b :: post := by rw [e1]; exact List.mem_append_left _ ht
    rcases List.mem_cons.mp this with rfl | this
    · omega
    · have := p6 t this; omega
  refine ⟨pre, post, ?_, ?_, p6⟩
  · rw [e2, List.filter_append, List.filter_eq_self.mpr fun t ht => decide_eq_true (lo t ht), List.filter_eq_nil_iff.mpr fun t ht => by have := hi t ht; simp; omega, List.append_nil]
  · rw [e2, List.filter_append, List.filter_eq_nil_iff.mpr (fun t ht => by have := lo t ht; simp; omega), List.filter_eq_self.mpr fun t ht => decide_eq_true (hi t ht), List.nil_append, e1]
theorem min_first {b : Int} : ∀ {post : List Int}, (∀ t ∈ post, b ≤ t) → post.foldl min b = b
  | [], _ => rfl
  | t :: r, h => by
    have := h t List.mem_cons_self
    rw [List.foldl_cons, show min b t = b by omega]
    exact min_first fun y hy => h y (List.mem_cons_of_mem _ hy)
theorem dMin_l (x : Int) (xs : List Int) : dMin [.list ((x :: xs).map .int)] = some (.int (xs.foldl min x)) := by
  rw [← PySem.W.minD_ints]
  exact if_pos (alike_ints (x :: xs))
theorem repr_i {i : Int} (h : i.natAbs < 10 ^ 18) : ∃ s, dRepr [.int i] = some (.str s) := ⟨_, repr_nice (nice_int h) (by simp [PyData.depth]) (by simp [PyData.bulk])⟩
theorem repr_n : ∃ s, dRepr [.none] = some (.str s) := ⟨_, repr_nice rfl (by decide) (by decide)⟩
theorem lc_lt (U : List Int) (v : Int) : lcF some (fun p20 : D => ((bin dLt (some p20) (some (.int v))).bind isB)) (fun p20 : D => some p20) (U.map .int) = some ((U.filter fun t => decide (t < v)).map .int) :=
  lcF_map (fun t : Int => .int t) (fun t => decide (t < v)) (fun t : Int => .int t) U fun t _ => ⟨.int t, rfl, by simp, fun _ => rfl⟩
theorem lc_ge (U : List Int) (v : Int) : lcF some (fun p20 : D => ((bin dGe (some p20) (some (.int v))).bind isB)) (fun p20 : D => some p20) (U.map .int) = some ((U.filter fun t => decide (v ≤ t)).map .int) :=
  lcF_map (fun t : Int => .int t) (fun t => decide (v ≤ t)) (fun t : Int => .int t) U fun t _ => ⟨.int t, rfl, by simp, fun _ => rfl⟩
theorem s_box_right {hs : List Bx} {ls : List (Int × Int)} {u : Int} (h : Hld hs ls u) (hl : ls.length ≤ 30) {i : Nat} {x : Bx} (hi : hs[i]? = some x) (F : List Int) (hF : F.length ≤ 100) :
    L1__law_are_boxes_right (hoD hs) (lsD ls) (.int u) (F.map .int) (.int (i : Nat), bxD x) = some (.nx ((F ++ (rowOf ls u (x, i)).map (fun r => r.headD 0)).map .int)) := by
  have hm := List.mem_of_getElem? hi
  have hx := h.ok x hm
  have h1 := h.one hm
  have u0 := h.u0
  have u1 := h.u1
  have e1 := s_stays (x := x) h.le
  have e2 := s_open hx h.le u0 u1 hl
  obtain ⟨t, e3, ht⟩ := s_used_x hx h.le u0 u1 hl
  have e4 := s_first1 h1
  have e5 := s_held1 h1
  have e6 := s_uses (x := x) h.le
  have l1 : ∀ p : D, lenOk (some [p]) = some [p] := fun _ => rfl
  have l4 : ∀ p q r s : D, lenOk (some [p, q, r, s]) = some [p, q, r, s] := fun _ _ _ _ => rfl
  have eh : hoD [x] = .tuple [bxD x] := rfl
  rw [eh] at e4 e5
  cases hg : gapOf x ls u with
  | none =>
    have ht' := ht.mpr hg
    subst ht'
    rw [hg] at e2 e4 e5
    have er : (rowOf ls t (x, i)).map (fun r => r.headD 0) = [] := by
      unfold rowOf
      simp only
      rw [hg]
      rfl
    obtain ⟨s, es⟩ := repr_n
    rw [er, List.append_nil]
    generalize (PyData.tuple ((till x ls t).map (stD x.k t))) = Z at e1 e2 e3
    generalize bxD x = BX at e1 e4 e5 e6 ⊢
    generalize hoD hs = HS
    simp only [Option.isNone_none] at e5 e2
    simp [L1__law_are_boxes_right, e1, e2, e3, e4, e5, es, l1]
  | some g =>
    obtain ⟨a, b⟩ := g
    have hin := gapOf_in h.le u0 hg
    have k0 := hx.k0
    have k1 := hx.k1
    have ht' : ¬ t = u := fun e => by rw [ht.mp e] at hg; cases hg
    have e7 := s_shows h hi hg
    rw [hg] at e2 e4 e5
    have er : (rowOf ls u (x, i)).map (fun r => r.headD 0) = [a + x.k + 1] := by
      unfold rowOf
      simp only
      rw [hg]
      rfl
    obtain ⟨s, es⟩ := repr_i (i := a + x.k + 1) (by omega)
    obtain ⟨pre, post, q1, q2, q3⟩ := around hx h.le u0 hg
    have pl := pick_len x ls
    have f1 := lc_lt (0 :: pick x ls) (a + x.k + 1)
    have f2 := lc_ge (0 :: pick x ls) (a + x.k + 1)
    have g1 : lenOk (some (((0 :: pick x ls).filter fun t => decide (t < a + x.k + 1)).map PyData.int)) = some (pre.map .int ++ [.int a]) := by
      rw [lenOk_s (by
        have := List.length_filter_le (fun t => decide (t < a + x.k + 1)) (0 :: pick x ls)
        rw [List.length_cons] at this
        rw [List.length_map]
        omega), q1]
      simp
    have g2 : lenOk (some (((0 :: pick x ls).filter fun t => decide (a + x.k + 1 ≤ t)).map PyData.int)) = some (((0 :: pick x ls).filter fun t => decide (a + x.k + 1 ≤ t)).map PyData.int) := lenOk_s (by
        have := List.length_filter_le (fun t => decide (a + x.k + 1 ≤ t)) (0 :: pick x ls)
        rw [List.length_cons] at this
        rw [List.length_map]
        omega)
    have g3 : dPlus (.list (((0 :: pick x ls).filter fun t => decide (a + x.k + 1 ≤ t)).map PyData.int)) (.list [.int u]) = some (.list ((b :: post).map .int)) := by
      rw [dPlus_ll (by
        have := List.length_filter_le (fun t => decide (a + x.k + 1 ≤ t)) (0 :: pick x ls)
        rw [List.length_cons] at this
        rw [List.length_map]
        simp
        omega), ← q2]
      simp
    have g4 := dMin_l b post
    rw [min_first q3] at g4
    have g5 := appD_s (ds := F.map PyData.int) (d := .int (a + x.k + 1)) (by rw [List.length_map]; omega)
    have g6 : dIx (bxD x) (.int 1) = some (.int x.k) := by simp [bxD]
    rw [er]
    simp only [Option.bind_some, bin_s] at f1 f2
    generalize ((0 :: pick x ls).filter fun t => decide (t < a + x.k + 1)) = U1 at f1 g1
    generalize ((0 :: pick x ls).filter fun t => decide (a + x.k + 1 ≤ t)) = U2 at f2 g2 g3
    generalize ((0 :: pick x ls).map PyData.int) = U at e6 f1 f2
    generalize (PyData.tuple ((till x ls u).map (stD x.k u))) = Z at e1 e2 e3
    generalize ((b :: post).map PyData.int) = W at g3 g4
    generalize bxD x = BX at e1 e4 e5 e6 g6 ⊢
    generalize hoD hs = HS at e7 ⊢
    simp only [Option.isNone_some] at e5 e2 e4
    simp [L1__law_are_boxes_right, e1, e2, e3, e4, e5, es, l1, ht', e6, f1, f2, g1, g2, g3, g4, g5, g6, l4, e7]
end DL

set_option Elab.async false
set_option linter.all false
set_option maxRecDepth 100000
set_option maxHeartbeats 4000000
set_option autoImplicit false
namespace DL
open PySem PySem.Spec PyProof.Rows L2 K75
theorem foldl_min_le : ∀ (xs : List Int) (x : Int), xs.foldl min x ≤ x ∧ (∀ y ∈ xs, xs.foldl min x ≤ y) ∧ xs.foldl min x ∈ x :: xs
  | [], x => ⟨Int.le_refl _, fun y h => (by cases h), List.mem_cons_self⟩
  | y :: r, x => by
    obtain ⟨h1, h2, h3⟩ := foldl_min_le r (min x y)
    rw [List.foldl_cons]
    refine ⟨by omega, fun z hz => ?_, ?_⟩
    · rcases List.mem_cons.mp hz with rfl | hz
      · omega
      · exact h2 z hz
    · rcases List.mem_cons.mp h3 with e | h3
      · rw [e]
        by_cases q : x ≤ y
        · rw [show min x y = x by omega]; exact List.mem_cons_self
        · rw [show min x y = y by omega]; exact List.mem_cons_of_mem _ List.mem_cons_self
      · exact List.mem_cons_of_mem _ (List.mem_cons_of_mem _ h3)
theorem lost_len (hs : List Bx) (ls : List (Int × Int)) (u : Int) : (lost hs ls u).length ≤ hs.length := by
  have : ∀ zs : List (Bx × Nat), (zs.flatMap (rowOf ls u)).length ≤ zs.length := fun zs => by
    induction zs with
    | nil => simp
    | cons z r ih =>
      rw [List.flatMap_cons, List.length_append, List.length_cons]
      have := row_len ls u z
      omega
  have q := this hs.zipIdx
  rwa [List.length_zipIdx] at q
theorem s_boxes {hs : List Bx} {ls : List (Int × Int)} {u : Int} (h : Hld hs ls u) (hl : ls.length ≤ 30) : g__law_are_boxes_right [hoD hs, lsD ls, .int u] = some (.bool true) := by
  have e := (forF_fold (f := fun l y => ((un2 some some) y).bind (L1__law_are_boxes_right (hoD hs) (lsD ls) (.int u) l)) (fun p : Bx × Nat => .tuple [.int (p.2 : Nat), bxD p.1]) (fun F : List Int => F.map PyData.int) (fun F p => F ++ (rowOf ls u p).map fun r => r.headD 0) (fun i F => F.length ≤ i) hs.zipIdx [] 0 (Nat.le_refl _) fun i p F hi hF => by
    have hi' : i < hs.length := by
      have := (List.getElem?_eq_some_iff.mp hi).1
      rwa [List.length_zipIdx] at this
    have hl2 := h.l2
    have hp : hs[p.2]? = some p.1 := List.mem_zipIdx_iff_getElem?.mp (List.mem_of_getElem? hi)
    refine ⟨?_, ?_⟩
    · have q := s_box_right h hl (i := p.2) (x := p.1) hp F (by omega)
      rw [un2_s, Option.bind_some, Option.map_some, Option.bind_some, q]
    · have := row_len ls u p
      rw [List.length_append, List.length_map]
      omega).1
  rw [fold_flat, List.nil_append, ← List.map_flatMap] at e
  have en := enum_hold hs
  have l0 : lenOk (some ([] : List D)) = some [] := rfl
  have e' : forF (fun l y => ((un2 some some) y).bind (L1__law_are_boxes_right (hoD hs) (lsD ls) (.int u) l)) (hs.zipIdx.map fun p : Bx × Nat => .tuple [.int (p.2 : Nat), bxD p.1]) [] = some (.nx (((lost hs ls u).map fun r => r.headD 0).map PyData.int)) := e
  have hsm := lost_small h.le h.u0 (by have := h.u1; omega) h.ok h.l2
  rcases s_first h with ⟨hz, e1⟩ | ⟨r, hr, h3, e1⟩
  · rw [hz] at e'
    simp only [List.map_nil] at e'
    have e9 : dNe (.list []) (.list []) = some (.bool false) := rfl
    obtain ⟨s, es⟩ := repr_n
    simp [g__law_are_boxes_right, b__law_are_boxes_right, B__law_are_boxes_right, en, l0, e', e9, e1, es]
  · have hne : lost hs ls u ≠ [] := fun z => by rw [z] at hr; cases hr
    have hsmall : ∀ z ∈ (lost hs ls u).map fun r => r.headD 0, z.natAbs < 10 ^ 18 := fun z hz => by
      obtain ⟨q, hq, rfl⟩ := List.mem_map.mp hz
      obtain ⟨l, a, b, c, rfl⟩ := lost_ne q hq
      exact hsm _ hq l List.mem_cons_self
    have hr' : r.headD 0 ∈ (lost hs ls u).map fun r => r.headD 0 := List.mem_map.mpr ⟨r, hr, rfl⟩
    have h3' : ∀ z ∈ (lost hs ls u).map fun r => r.headD 0, r.headD 0 ≤ z := fun z hz => by
      obtain ⟨q, hq, rfl⟩ := List.mem_map.mp hz
      exact h3 q hq
    have hne' : ((lost hs ls u).map fun r => r.headD 0) ≠ [] := fun z => hne (List.map_eq_nil_iff.mp z)
    generalize ((lost hs ls u).map fun r => r.headD 0) = M at e' hsmall hr' h3' hne'
    match M, hne' with
    | m :: ms, _ =>
      obtain ⟨f1, f2, f3⟩ := foldl_min_le ms m
      have em : ms.foldl min m = r.headD 0 := by
        refine Int.le_antisymm ?_ (h3' _ f3)
        rcases List.mem_cons.mp hr' with q | q
        · rw [q]; exact f1
        · exact f2 _ q
      have e4 := dMin_l m ms
      rw [em] at e4
      obtain ⟨s, es⟩ := repr_i (hsmall _ hr')
      have e9 : dNe (.list ((m :: ms).map .int)) (.list []) = some (.bool true) := by
        rw [dNe_nice (show nice (.list ((m :: ms).map .int)) = true from nice_ints hsmall) (show nice (.list []) = true from rfl) (by show PyData.depthAll ((m :: ms).map .int) + 1 ≤ 64; rw [depth_ints]; decide) (by decide)]
        rfl
      generalize ((m :: ms).map PyData.int) = W at e' e4 e9
      generalize r.headD 0 = v at e1 e4 es
      simp [g__law_are_boxes_right, b__law_are_boxes_right, B__law_are_boxes_right, en, l0, e', e9, e1, e4, es]
end DL

set_option Elab.async false
set_option linter.all false
set_option autoImplicit false
namespace K75
/-! ### the fewest letters to one hole: what the search walks -/
abbrev Sq := Nat × Nat
structure Kn where
  b : Bool
  z : Bool
def Kn.w (c : Kn) (p : Sq) : Nat := if c.b then max p.1 p.2 else if c.z then p.1 else p.2
def Kn.made (c : Kn) (l : Sq) (sd : Nat) : Sq := if sd = 0 then (c.w l + 1, l.2) else (l.1, c.w l + 1)
abbrev En := Sq × Option (Sq × Nat)
def Kn.add2 (c : Kn) (l : Sq) (S : List En × List Sq) (sd : Nat) : List En × List Sq :=
  if S.1.any (fun e => decide (e.1 = c.made l sd)) then S else (S.1 ++ [(c.made l sd, some (l, sd))], S.2 ++ [c.made l sd])
def Kn.add1 (c : Kn) (S : List En × List Sq) (l : Sq) : List En × List Sq := c.add2 l (c.add2 l S 0) 1
def worse (p q : Sq) : Bool := decide (p ≠ q) && (decide (p.1 ≤ q.1) && decide (p.2 ≤ q.2))
def next (L : List Sq) : List Sq := L.filter fun a => !L.any fun q => worse a q
theorem w_le (c : Kn) {p : Sq} {n : Nat} (h1 : p.1 ≤ n) (h2 : p.2 ≤ n) : c.w p ≤ n := by
  unfold Kn.w
  split
  · omega
  · split <;> omega
theorem w_made (c : Kn) (l : Sq) (sd : Nat) : c.w (c.made l sd) ≤ c.w l + 1 := by
  unfold Kn.made Kn.w
  cases c.b <;> cases c.z <;> by_cases h : sd = 0 <;> simp [h] <;> omega
theorem w_best (c : Kn) (l : Sq) : ∃ sd, (sd = 0 ∨ sd = 1) ∧ c.w (c.made l sd) = c.w l + 1 := by
  cases hb : c.b <;> cases hz : c.z
  · exact ⟨1, .inr rfl, by simp [Kn.made, Kn.w, hb, hz]⟩
  · exact ⟨0, .inl rfl, by simp [Kn.made, Kn.w, hb, hz]⟩
  · exact ⟨0, .inl rfl, by simp [Kn.made, Kn.w, hb]; omega⟩
  · exact ⟨0, .inl rfl, by simp [Kn.made, Kn.w, hb]; omega⟩
theorem w_mono (c : Kn) {p q : Sq} (h1 : p.1 ≤ q.1) (h2 : p.2 ≤ q.2) : c.w p ≤ c.w q := by
  unfold Kn.w
  split
  · omega
  · split <;> assumption
def at_ (A : List En) (s : Sq) : Option (Option (Sq × Nat)) := (A.find? fun e => decide (e.1 = s)).map (·.2)
inductive Chain (c : Kn) (A : List En) : Nat → Sq → List (Nat × Nat) → Prop
  | zero {s : Sq} : at_ A s = some none → Chain c A 0 s []
  | succ {n : Nat} {s l : Sq} {sd : Nat} {ls : List (Nat × Nat)} : at_ A s = some (some (l, sd)) → s = c.made l sd → sd ≤ 1 → Chain c A n l ls → Chain c A (n + 1) s (ls ++ [(c.w l + 1, sd)])
theorem at_app {A B : List En} {s : Sq} {o : Option (Sq × Nat)} (h : at_ A s = some o) : at_ (A ++ B) s = some o := by
  unfold at_ at *
  rw [List.find?_append]
  cases hf : A.find? fun e => decide (e.1 = s) with
  | none => rw [hf] at h; cases h
  | some e => rw [hf] at h; exact h
theorem Chain.app {c : Kn} {A : List En} {n : Nat} {s : Sq} {ls : List (Nat × Nat)} (h : Chain c A n s ls) (B : List En) : Chain c (A ++ B) n s ls := by
  induction h with
  | zero e => exact .zero (at_app e)
  | succ e h1 h2 _ ih => exact .succ (at_app e) h1 h2 ih
theorem Chain.top {c : Kn} {A : List En} {n : Nat} {s : Sq} {ls : List (Nat × Nat)} (h0 : ∀ s, at_ A s = some none → s = (0, 0)) (h : Chain c A n s ls) : c.w s ≤ n ∧ ls.length = n ∧ (∀ p ∈ ls, p.2 ≤ 1) ∧ (c.w s = n → ls.map (·.1) = (List.range n).map (· + 1)) := by
  induction h with
  | zero e =>
    rw [h0 _ e]
    refine ⟨w_le c (Nat.le_refl _) (Nat.le_refl _), rfl, fun p h => (by cases h), fun _ => rfl⟩
  | @succ n s l sd ls e h1 h2 _ ih =>
    obtain ⟨i1, i2, i3, i4⟩ := ih
    have := w_made c l sd
    rw [← h1] at this
    refine ⟨by omega, by simp [i2], fun p hp => ?_, fun hw => ?_⟩
    · rcases List.mem_append.mp hp with hp | hp
      · exact i3 p hp
      · rw [List.mem_singleton.mp hp]; exact h2
    · have hl : c.w l = n := by omega
      rw [List.map_append, i4 hl, List.range_succ, List.map_append]
      simp [hl]
/-! one round -/
structure Rnd (c : Kn) (n : Nat) (A : List En) (S : List En × List Sq) : Prop where
  ext : ∃ B, S.1 = A ++ B ∧ B.map (·.1) = S.2
  nd : (S.1.map (·.1)).Nodup
  le : ∀ e ∈ S.1, e.1.1 ≤ n + 1 ∧ e.1.2 ≤ n + 1
  ch : ∀ s ∈ S.2, ∃ ls, Chain c S.1 (n + 1) s ls
theorem at_new {A : List En} {s : Sq} {o : Option (Sq × Nat)} (h : A.any (fun e => decide (e.1 = s)) = false) : at_ (A ++ [(s, o)]) s = some o := by
  unfold at_
  have : A.find? (fun e => decide (e.1 = s)) = none := by
    rw [List.find?_eq_none]
    intro e he q
    have : A.any (fun e => decide (e.1 = s)) = true := List.any_eq_true.mpr ⟨e, he, q⟩
    rw [h] at this
    cases this
  rw [List.find?_append, this]
  simp
theorem Rnd.add2 {c : Kn} {n : Nat} {A : List En} {S : List En × List Sq} (R : Rnd c n A S) {l : Sq} (hl : l.1 ≤ n ∧ l.2 ≤ n) (hc : ∃ ls, Chain c A n l ls) {sd : Nat} (hsd : sd ≤ 1) : Rnd c n A (c.add2 l S sd) ∧ (∃ B, (c.add2 l S sd).1 = S.1 ++ B) ∧ ∃ e ∈ (c.add2 l S sd).1, e.1 = c.made l sd := by
  unfold Kn.add2
  cases hq : S.1.any (fun e => decide (e.1 = c.made l sd)) with
  | true =>
    rw [if_pos rfl]
    obtain ⟨e, he, h⟩ := List.any_eq_true.mp hq
    exact ⟨R, ⟨[], by simp⟩, e, he, of_decide_eq_true h⟩
  | false =>
    rw [if_neg (by decide)]
    obtain ⟨B, h1, h2⟩ := R.ext
    obtain ⟨ls, hch⟩ := hc
    have hw : c.w l ≤ n := w_le c hl.1 hl.2
    refine ⟨⟨⟨B ++ [(c.made l sd, some (l, sd))], by rw [h1, List.append_assoc], by rw [List.map_append, h2]; rfl⟩, ?_, fun e he => ?_, fun s hs => ?_⟩, ⟨_, rfl⟩, _, List.mem_append_right _ List.mem_cons_self, rfl⟩
    · rw [List.map_append, List.nodup_append]
      refine ⟨R.nd, by simp, fun a ha b hb e => ?_⟩
      simp at hb
      obtain ⟨q, hq1, hq2⟩ := List.mem_map.mp ha
      have : S.1.any (fun e => decide (e.1 = c.made l sd)) = true := List.any_eq_true.mpr ⟨q, hq1, decide_eq_true (by rw [hq2, e, hb])⟩
      rw [hq] at this
      cases this
    · rcases List.mem_append.mp he with he | he
      · exact R.le e he
      · rw [List.mem_singleton.mp he]
        unfold Kn.made
        split <;> (simp only; omega)
    · rcases List.mem_append.mp hs with hs | hs
      · obtain ⟨q, hq⟩ := R.ch s hs
        exact ⟨q, hq.app _⟩
      · rw [List.mem_singleton.mp hs]
        refine ⟨ls ++ [(c.w l + 1, sd)], .succ (ls := ls) (at_new hq) rfl hsd ?_⟩
        simp only
        rw [h1, List.append_assoc]
        exact hch.app _
theorem Rnd.add1 {c : Kn} {n : Nat} {A : List En} {S : List En × List Sq} (R : Rnd c n A S) {l : Sq} (hl : l.1 ≤ n ∧ l.2 ≤ n) (hc : ∃ ls, Chain c A n l ls) : Rnd c n A (c.add1 S l) ∧ (∃ B, (c.add1 S l).1 = S.1 ++ B) ∧ ∀ sd, sd = 0 ∨ sd = 1 → ∃ e ∈ (c.add1 S l).1, e.1 = c.made l sd := by
  obtain ⟨R1, ⟨B1, e1⟩, q1, m1, f1⟩ := R.add2 hl hc (sd := 0) (by decide)
  obtain ⟨R2, ⟨B2, e2⟩, q2, m2, f2⟩ := R1.add2 hl hc (sd := 1) (by decide)
  refine ⟨R2, ⟨B1 ++ B2, ?_⟩, fun sd h => ?_⟩
  · unfold Kn.add1
    rw [e2, e1, List.append_assoc]
  · rcases h with rfl | rfl
    · exact ⟨q1, by unfold Kn.add1; rw [e2]; exact List.mem_append_left _ m1, f1⟩
    · exact ⟨q2, m2, f2⟩
theorem Rnd.all {c : Kn} {n : Nat} {A : List En} : ∀ (L : List Sq) {S : List En × List Sq}, Rnd c n A S → (∀ l ∈ L, (l.1 ≤ n ∧ l.2 ≤ n) ∧ ∃ ls, Chain c A n l ls) → Rnd c n A (L.foldl c.add1 S) ∧ (∃ B, (L.foldl c.add1 S).1 = S.1 ++ B) ∧ ∀ l ∈ L, ∀ sd, sd = 0 ∨ sd = 1 → ∃ e ∈ (L.foldl c.add1 S).1, e.1 = c.made l sd
  | [], S, R, _ => ⟨R, ⟨[], by simp⟩, fun l h => (by cases h)⟩
  | l :: r, S, R, h => by
    obtain ⟨h1, h2⟩ := h l List.mem_cons_self
    obtain ⟨R1, ⟨B1, e1⟩, f1⟩ := R.add1 h1 h2
    obtain ⟨R2, ⟨B2, e2⟩, f2⟩ := Rnd.all r R1 fun q hq => h q (List.mem_cons_of_mem _ hq)
    rw [List.foldl_cons]
    refine ⟨R2, ⟨B1 ++ B2, by rw [e2, e1, List.append_assoc]⟩, fun q hq sd hs => ?_⟩
    rcases List.mem_cons.mp hq with rfl | hq
    · obtain ⟨e, m, z⟩ := f1 sd hs
      exact ⟨e, by rw [e2]; exact List.mem_append_left _ m, z⟩
    · exact f2 q hq sd hs
/-! the search's state behind n rounds -/
structure Lay (c : Kn) (n : Nat) (A : List En) (L : List Sq) : Prop where
  nd : (A.map (·.1)).Nodup
  le : ∀ e ∈ A, e.1.1 ≤ n ∧ e.1.2 ≤ n
  ch : ∀ s ∈ L, (∃ ls, Chain c A n s ls)
  mem : ∀ s ∈ L, ∃ e ∈ A, e.1 = s
  top : ∃ s ∈ L, c.w s = n
  org : ∀ s, at_ A s = some none → s = (0, 0)
  len : L.length ≤ A.length
theorem lay0 (c : Kn) : Lay c 0 [((0, 0), none)] [(0, 0)] := by
  refine ⟨by simp, fun e he => ?_, fun s hs => ?_, fun s hs => ⟨((0, 0), none), List.mem_cons_self, (List.mem_singleton.mp hs).symm⟩, ⟨(0, 0), List.mem_cons_self, by have := w_le c (p := (0, 0)) (n := 0) (Nat.le_refl _) (Nat.le_refl _); omega⟩, fun s h => ?_, Nat.le_refl _⟩
  · rw [List.mem_singleton.mp he]; exact ⟨Nat.le_refl _, Nat.le_refl _⟩
  · rw [List.mem_singleton.mp hs]
    exact ⟨[], .zero rfl⟩
  · unfold at_ at h
    by_cases q : (0, 0) = s
    · exact q.symm
    · simp [q] at h
/-- of what is there one is the greatest -/
theorem most {α : Type} (f : α → Nat) : ∀ (L : List α), L ≠ [] → ∃ a ∈ L, ∀ b ∈ L, f b ≤ f a
  | [a], _ => ⟨a, List.mem_cons_self, fun b hb => by rw [List.mem_singleton.mp hb]; exact Nat.le_refl _⟩
  | a :: b :: r, _ => by
    obtain ⟨m, h1, h2⟩ := most f (b :: r) (by simp)
    by_cases h : f a ≤ f m
    · refine ⟨m, List.mem_cons_of_mem _ h1, fun x hx => ?_⟩
      rcases List.mem_cons.mp hx with rfl | hx
      · exact h
      · exact h2 x hx
    · refine ⟨a, List.mem_cons_self, fun x hx => ?_⟩
      rcases List.mem_cons.mp hx with rfl | hx
      · exact Nat.le_refl _
      · have := h2 x hx
        omega
theorem Lay.next {c : Kn} {n : Nat} {A : List En} {L : List Sq} (Y : Lay c n A L) : Lay c (n + 1) (L.foldl c.add1 (A, [])).1 (next (L.foldl c.add1 (A, [])).2) ∧ (L.foldl c.add1 (A, [])).2.length ≤ (L.foldl c.add1 (A, [])).1.length ∧ (∀ s ∈ (L.foldl c.add1 (A, [])).2, ∃ e ∈ (L.foldl c.add1 (A, [])).1, e.1 = s) := by
  have R0 : Rnd c n A (A, []) := ⟨⟨[], by simp, rfl⟩, Y.nd, fun e he => by have := Y.le e he; exact ⟨by omega, by omega⟩, fun s h => by cases h⟩
  have inL : ∀ l ∈ L, (l.1 ≤ n ∧ l.2 ≤ n) ∧ ∃ ls, Chain c A n l ls := fun l hl => by
    obtain ⟨e, h1, h2⟩ := Y.mem l hl
    exact ⟨by rw [← h2]; exact Y.le e h1, Y.ch l hl⟩
  obtain ⟨R, ⟨B0, e0⟩, f⟩ := R0.all L inL
  generalize L.foldl c.add1 (A, []) = S at R e0 f
  obtain ⟨B, h1, h2⟩ := R.ext
  have hmem : ∀ s ∈ S.2, ∃ e ∈ S.1, e.1 = s := fun s hs => by
    rw [← h2] at hs
    obtain ⟨e, he, q⟩ := List.mem_map.mp hs
    exact ⟨e, by rw [h1]; exact List.mem_append_right _ he, q⟩
  have hlen : S.2.length ≤ S.1.length := by
    rw [← h2, h1, List.length_map, List.length_append]
    omega
  refine ⟨⟨R.nd, R.le, fun s hs => R.ch s (List.mem_filter.mp hs).1, fun s hs => hmem s (List.mem_filter.mp hs).1, ?_, fun s h => ?_, Nat.le_trans (List.length_filter_le _ _) hlen⟩, hlen, hmem⟩
  · obtain ⟨s, hs, hw⟩ := Y.top
    obtain ⟨sd, hsd, hb⟩ := w_best c s
    obtain ⟨e, he, hes⟩ := f s hs sd hsd
    have hin : e.1 ∈ S.2 := by
      rw [h1] at he
      rcases List.mem_append.mp he with he | he
      · have := w_le c (Y.le e he).1 (Y.le e he).2
        rw [hes, hb] at this
        omega
      · rw [← h2]
        exact List.mem_map.mpr ⟨e, he, rfl⟩
    have hT : e.1 ∈ S.2.filter (fun t => decide (c.w t = n + 1)) := List.mem_filter.mpr ⟨hin, decide_eq_true (by rw [hes, hb, hw])⟩
    obtain ⟨m, hm, hmax⟩ := most (fun t : Sq => t.1 + t.2) (S.2.filter fun t => decide (c.w t = n + 1)) (List.ne_nil_of_mem hT)
    obtain ⟨hm1, hm2⟩ := List.mem_filter.mp hm
    have hm2 := of_decide_eq_true hm2
    refine ⟨m, List.mem_filter.mpr ⟨hm1, ?_⟩, hm2⟩
    rw [Bool.not_eq_true', List.any_eq_false]
    intro q hq hwz
    unfold worse at hwz
    rw [Bool.and_eq_true, Bool.and_eq_true, decide_eq_true_eq, decide_eq_true_eq, decide_eq_true_eq] at hwz
    obtain ⟨z1, z2, z3⟩ := hwz
    obtain ⟨eq, heq, heq2⟩ := hmem q hq
    have hq1 : c.w q ≤ n + 1 := by rw [← heq2]; exact w_le c (R.le eq heq).1 (R.le eq heq).2
    have hq2 := w_mono c z2 z3
    have := hmax q (List.mem_filter.mpr ⟨hq, decide_eq_true (by omega)⟩)
    exact z1 (Prod.ext (by omega) (by omega))
  · refine Y.org s ?_
    unfold at_ at h ⊢
    rw [h1, List.find?_append] at h
    cases hf : A.find? fun e => decide (e.1 = s) with
    | some e => rw [hf] at h; exact h
    | none =>
      rw [hf] at h
      exfalso
      simp only [Option.none_or] at h
      obtain ⟨e, he, ho⟩ := Option.map_eq_some_iff.mp h
      have hB : e ∈ B := List.mem_of_find?_eq_some he
      have hs : e.1 ∈ S.2 := by rw [← h2]; exact List.mem_map.mpr ⟨e, hB, rfl⟩
      obtain ⟨ls, hch⟩ := R.ch e.1 hs
      have hes : e.1 = s := of_decide_eq_true (List.find?_some (p := fun e : En => decide (e.1 = s)) he)
      cases hch with
      | succ q _ _ _ =>
        rw [hes] at q
        unfold at_ at q
        rw [h1, List.find?_append, hf, Option.none_or, he] at q
        rw [Option.map_some, ho] at q
        cases q
/-- there are few squares -/
theorem few {n : Nat} {A : List En} (nd : (A.map (·.1)).Nodup) (h : ∀ e ∈ A, e.1.1 ≤ n ∧ e.1.2 ≤ n) : A.length ≤ (n + 1) * (n + 1) := by
  have sub : ∀ s ∈ A.map (·.1), s ∈ (List.range (n + 1)).flatMap fun i => (List.range (n + 1)).map fun j => (i, j) := fun s hs => by
    obtain ⟨e, he, rfl⟩ := List.mem_map.mp hs
    have := h e he
    refine List.mem_flatMap.mpr ⟨e.1.1, List.mem_range.mpr (by omega), List.mem_map.mpr ⟨e.1.2, List.mem_range.mpr (by omega), rfl⟩⟩
  have q := List.Nodup.length_le_of_subset nd sub
  have e : ∀ (m : Nat) (xs : List Nat), (xs.flatMap fun i => (List.range m).map fun j => (i, j)).length = xs.length * m := fun m xs => by
    induction xs with
    | nil => simp
    | cons x r ih => rw [List.flatMap_cons, List.length_append, ih, List.length_map, List.length_range, List.length_cons, Nat.succ_mul, Nat.add_comm]
  rw [e, List.length_range, List.length_map] at q
  exact q
end K75

set_option Elab.async false
set_option linter.all false
set_option maxRecDepth 100000
set_option maxHeartbeats 4000000
set_option autoImplicit false
namespace DL
open PySem PySem.Spec PyProof.Rows L2 K75
/-! ### the search, told -/
abbrev NV : Int := 1000000000000
def kn (x : Bx) : Kn := ⟨x.b, decide (x.s = 0)⟩
def kpD (x : Bx) : D := .tuple [.int (if x.b then NV else if x.s = 0 then x.k else NV), .int (if x.b then NV else if x.s = 0 then NV else x.k), .int (if x.b then x.k else NV)]
theorem one_lc {P : Type} (pm : D → Option P) (mt : P → Option Bool) (me : P → Option D) (d : D) {p : P} {t : Bool} {z : D} (h1 : pm d = some p) (h2 : mt p = some t) (h3 : me p = some z) : lcF pm mt me [d] = some (if t then [z] else []) := by
  show ((pm d).bind fun p => (mt p).bind fun b => if b then (me p).bind fun d => (lcF pm mt me []).map (d :: ·) else lcF pm mt me []) = _
  rw [h1, Option.bind_some, h2, Option.bind_some]
  cases t with
  | true => rw [if_pos rfl, h3]; rfl
  | false => rfl
theorem s_keep1 {x : Bx} (h : x.Ok) (i : Int) (F : List D) (hF : F.length ≤ 10) : L1_told_keeps (hoD [x]) (.int NV) F (.int i) = some (.nx (F ++ [.int (if x.b then NV else if x.s = i then x.k else NV)])) := by
  have k1 := h.k1
  have e := one_lc (un3 some some some) (fun p6 : (D × D × D) => (andT ((bin dEq (some p6.1) (some (.int i))).bind isB) (((some p6.2.2).bind isB).map (!·)))) (fun p6 : (D × D × D) => (some p6.2.1)) (bxD x) (p := (.int x.s, .int x.k, .bool x.b)) (t := decide (x.s = i) && !x.b) (z := .int x.k) rfl (by by_cases q : x.s = i <;> simp [q]) rfl
  have hz : iterS (hoD [x]) = some [bxD x] := rfl
  have l1 : ∀ t : Bool, lenOk (some (if t then [PyData.int x.k] else [])) = some (if t then [PyData.int x.k] else []) := fun t => by cases t <;> rfl
  have l2 : ∀ t : Bool, lenOk (some (PyData.int NV :: (if t then [PyData.int x.k] else []))) = some (PyData.int NV :: (if t then [PyData.int x.k] else [])) := fun t => by cases t <;> rfl
  have m : dMin [.list (PyData.int NV :: (if (decide (x.s = i) && !x.b) then [PyData.int x.k] else []))] = some (.int (if x.b then NV else if x.s = i then x.k else NV)) := by
    cases hb : x.b with
    | true =>
      rw [Bool.not_true, Bool.and_false, if_neg (by decide), if_pos rfl]
      exact dMin_l NV []
    | false =>
      simp only [Bool.not_false, Bool.and_true, Bool.false_eq_true, if_false]
      by_cases q : x.s = i
      · simp only [q, decide_true, if_true]
        have := dMin_l NV [x.k]
        rw [show ([x.k].foldl min NV) = x.k by show min NV x.k = x.k; have hN : NV = 1000000000000 := rfl; omega] at this
        exact this
      · simp only [q, decide_false, Bool.false_eq_true, if_false]
        exact dMin_l NV []
  have a := appD_s (ds := F) (d := .int (if x.b then NV else if x.s = i then x.k else NV)) (by omega)
  have so : ∀ xs : List D, starO (some (.list xs)) (some []) = some xs := fun xs => by simp [starO]
  unfold L1_told_keeps
  rw [Option.bind_some, hz, Option.bind_some, e, l1, Option.map_some, so, consO_s, l2, Option.map_some, consO_s, Option.bind_some, m, Option.bind_some, a]
  rfl
theorem s_keeps {x : Bx} (h : x.Ok) : g_told_keeps [hoD [x]] = some (kpD x) := by
  have k1 := h.k1
  have e0 := s_keep1 h 0 [] (by decide)
  have e1 := s_keep1 h 1 [.int (if x.b then NV else if x.s = 0 then x.k else NV)] (show 1 ≤ 10 by decide)
  have e := one_lc (un3 some some some) (fun p9 : (D × D × D) => ((some p9.2.2).bind isB)) (fun p9 : (D × D × D) => (some p9.2.1)) (bxD x) (p := (.int x.s, .int x.k, .bool x.b)) (t := x.b) (z := .int x.k) rfl rfl rfl
  have hz : iterS (hoD [x]) = some [bxD x] := rfl
  have l1 : ∀ t : Bool, lenOk (some (if t then [PyData.int x.k] else [])) = some (if t then [PyData.int x.k] else []) := fun t => by cases t <;> rfl
  have l2 : ∀ t : Bool, lenOk (some (PyData.int NV :: (if t then [PyData.int x.k] else []))) = some (PyData.int NV :: (if t then [PyData.int x.k] else [])) := fun t => by cases t <;> rfl
  have m : dMin [.list (PyData.int NV :: (if x.b then [PyData.int x.k] else []))] = some (.int (if x.b then x.k else NV)) := by
    cases hb : x.b with
    | true =>
      rw [if_pos rfl, if_pos rfl]
      have := dMin_l NV [x.k]
      rw [show ([x.k].foldl min NV) = x.k by show min NV x.k = x.k; have hN : NV = 1000000000000 := rfl; omega] at this
      exact this
    | false => exact dMin_l NV []
  have so : ∀ xs : List D, starO (some (.list xs)) (some []) = some xs := fun xs => by simp [starO]
  have mu : dMul (.int 1000000) (.int 1000000) = some (.int NV) := dMul_60 (by decide) (by decide)
  have l01 : lenOk (some [PyData.int 0, .int 1]) = some [.int 0, .int 1] := rfl
  have l0 : lenOk (some ([] : List D)) = some [] := rfl
  have fo : forF (L := List D) (R := D) (fun l y => (some y).bind (L1_told_keeps (hoD [x]) (.int NV) l)) [.int 0, .int 1] [] = some (.nx [.int (if x.b then NV else if x.s = 0 then x.k else NV), .int (if x.b then NV else if x.s = 1 then x.k else NV)]) := by
    rw [forF_cons, Option.bind_some, e0]
    simp only [Option.bind_some, List.nil_append, forF_cons, e1, forF_nil]
    rfl
  have hs : (if x.s = 1 then x.k else NV) = if x.s = 0 then NV else x.k := by
    have := h.s0
    have := h.s1
    by_cases q : x.s = 0
    · rw [if_neg (by omega), if_pos q]
    · rw [if_pos (by omega), if_neg q]
  rw [hs] at fo
  have l3 : ∀ p q r : D, lenOk (starO (some (.list [p, q])) (some [r])) = some [p, q, r] := fun _ _ _ => rfl
  simp only [Option.bind_some] at fo e
  unfold g_told_keeps
  simp only [b_told_keeps]
  unfold B_told_keeps
  simp only [bin_s, mu, Option.bind_some, l0, consO_s, l01, Option.map_some, iterS_t, fo, seqLp_nx, hz, e, l1, so, l2, m, l3, finP_rt]
  rfl
/-! states -/
def sq (k : Int) (p : Sq) : D := .tuple [.int ((p.1 : Nat) * k), .int ((p.2 : Nat) * k)]
theorem mulk_le {k : Int} {a b : Nat} (hk : 1 ≤ k) : ((a : Nat) : Int) * k ≤ (b : Nat) * k ↔ a ≤ b := by
  constructor
  · intro h
    have := Int.le_of_mul_le_mul_right h (by omega : 0 < k)
    omega
  · intro h
    exact Int.mul_le_mul_of_nonneg_right (by omega) (by omega)
theorem mulk_eq {k : Int} {a b : Nat} (hk : 1 ≤ k) : ((a : Nat) : Int) * k = (b : Nat) * k ↔ a = b := by
  constructor
  · intro h
    have h1 := (mulk_le hk).mp (Int.le_of_eq h)
    have h2 := (mulk_le hk).mp (Int.le_of_eq h.symm)
    omega
  · intro h; rw [h]
theorem mulk_small {k : Int} {a : Nat} (hk : 1 ≤ k) (hk2 : k ≤ 50) (ha : a ≤ 500) : 0 ≤ ((a : Nat) : Int) * k ∧ ((a : Nat) : Int) * k ≤ 25000 := by
  constructor
  · exact Int.mul_nonneg (by omega) (by omega)
  · exact Int.le_trans (Int.mul_le_mul_of_nonneg_right (show (a : Int) ≤ 500 by omega) (by omega)) (by omega)
theorem mulk_max {k : Int} {a b : Nat} (hk : 1 ≤ k) : max (((a : Nat) : Int) * k) ((b : Nat) * k) = ((max a b : Nat) : Int) * k := by
  have h1 := mulk_le (k := k) (a := a) (b := b) hk
  have h2 := mulk_le (k := k) (a := b) (b := a) hk
  rcases Nat.le_total a b with h | h
  · rw [show max a b = b by omega]
    have := h1.mpr h
    omega
  · rw [show max a b = a by omega]
    have := h2.mpr h
    omega
theorem s_limit {x : Bx} (h : x.Ok) {p : Sq} (h1 : p.1 ≤ 500) (h2 : p.2 ≤ 500) : g_told_limit [kpD x, sq x.k p] = some (.int ((((kn x).w p + 1 : Nat) : Int) * x.k)) := by
  have k0 := h.k0
  have k1 := h.k1
  have b1 := mulk_small (a := p.1) k0 (by omega) h1
  have b2 := mulk_small (a := p.2) k0 (by omega) h2
  have mx : dMax [sq x.k p] = some (.int (((max p.1 p.2 : Nat) : Int) * x.k)) := by
    have := dMax_t ((p.1 : Nat) * x.k) [((p.2 : Nat) : Int) * x.k]
    rw [show maxI ((p.1 : Nat) * x.k) [((p.2 : Nat) : Int) * x.k] = max (((p.1 : Nat) : Int) * x.k) ((p.2 : Nat) * x.k) from rfl, mulk_max k0] at this
    exact this
  have b3 := mulk_small (a := max p.1 p.2) k0 (show x.k ≤ 50 by omega) (by omega)
  have hm := mulk_max (a := p.1) (b := p.2) k0
  have ha : ∀ n : Nat, ((n + 1 : Nat) : Int) * x.k = (n : Nat) * x.k + x.k := fun n => by
    rw [Int.natCast_add, Int.add_mul]
    omega
  have i0 : dIx (sq x.k p) (.int 0) = some (.int ((p.1 : Nat) * x.k)) := by simp [sq]
  have i1 : dIx (sq x.k p) (.int 1) = some (.int ((p.2 : Nat) * x.k)) := by simp [sq]
  have mn : ∀ a b c : Int, dMin [.int a, .int b, .int c] = some (.int (min (min a b) c)) := fun _ _ _ => rfl
  rw [ha]
  generalize sq x.k p = S at mx i0 i1 ⊢
  have : g_told_limit [kpD x, S] = some (.int (min (min (((p.1 : Nat) : Int) * x.k + (if x.b then NV else if x.s = 0 then x.k else NV)) (((p.2 : Nat) : Int) * x.k + (if x.b then NV else if x.s = 0 then NV else x.k))) (((max p.1 p.2 : Nat) : Int) * x.k + (if x.b then x.k else NV)))) := by
    simp [g_told_limit, b_told_limit, B_told_limit, kpD, mx, i0, i1, mn]
  rw [this]
  congr 2
  unfold kn Kn.w
  simp only [NV]
  cases x.b with
  | true =>
    simp only [if_true]
    generalize ((p.1 : Nat) : Int) * x.k = P1 at *
    generalize ((p.2 : Nat) : Int) * x.k = P2 at *
    omega
  | false =>
    simp only [Bool.false_eq_true, if_false, decide_eq_true_eq]
    by_cases q : x.s = 0
    · simp only [q, if_true]
      generalize ((p.1 : Nat) : Int) * x.k = P1 at *
      generalize ((p.2 : Nat) : Int) * x.k = P2 at *
      omega
    · simp only [q, if_false]
      generalize ((p.1 : Nat) : Int) * x.k = P1 at *
      generalize ((p.2 : Nat) : Int) * x.k = P2 at *
      omega
end DL

set_option Elab.async false
set_option linter.all false
set_option maxRecDepth 100000
set_option maxHeartbeats 4000000
set_option autoImplicit false
namespace DL
open PySem PySem.Spec PyProof.Rows L2 K75
/-! ### rounds of the search -/
theorem sq_inj {k : Int} (hk : 1 ≤ k) {p q : Sq} : sq k p = sq k q ↔ p = q := by
  constructor
  · intro h
    unfold sq at h
    simp only [PyData.tuple.injEq, List.cons.injEq, PyData.int.injEq, and_true] at h
    exact Prod.ext ((mulk_eq hk).mp h.1) ((mulk_eq hk).mp h.2)
  · intro h; rw [h]
theorem s_worse {k : Int} (hk : 1 ≤ k) (hk2 : k ≤ 50) {p q : Sq} (h1 : p.1 ≤ 500) (h2 : p.2 ≤ 500) (h3 : q.1 ≤ 500) (h4 : q.2 ≤ 500) : g_is_worse [sq k p, sq k q] = some (.bool (worse p q)) := by
  have b1 := mulk_small (a := p.1) hk hk2 h1
  have b2 := mulk_small (a := p.2) hk hk2 h2
  have b3 := mulk_small (a := q.1) hk hk2 h3
  have b4 := mulk_small (a := q.2) hk hk2 h4
  have ne : dNe (sq k p) (sq k q) = some (.bool (decide (p ≠ q))) := by
    have n1 : nice (sq k p) = true := nice_ints (xs := [(p.1 : Nat) * k, (p.2 : Nat) * k]) fun x hx => by
      simp only [List.mem_cons, List.not_mem_nil, or_false] at hx
      rcases hx with rfl | rfl <;> omega
    have n2 : nice (sq k q) = true := nice_ints (xs := [(q.1 : Nat) * k, (q.2 : Nat) * k]) fun x hx => by
      simp only [List.mem_cons, List.not_mem_nil, or_false] at hx
      rcases hx with rfl | rfl <;> omega
    rw [dNe_nice n1 n2 (Nat.le_trans (Nat.le_of_eq (depth_tI [(p.1 : Nat) * k, (p.2 : Nat) * k])) (by decide)) (Nat.le_trans (Nat.le_of_eq (depth_tI [(q.1 : Nat) * k, (q.2 : Nat) * k])) (by decide))]
    have e := eqv_tI [((p.1 : Nat) : Int) * k, (p.2 : Nat) * k] [((q.1 : Nat) : Int) * k, (q.2 : Nat) * k]
    rw [show PyData.eqv (sq k p) (sq k q) = _ from e]
    have hi : ([((p.1 : Nat) : Int) * k, (p.2 : Nat) * k] = [((q.1 : Nat) : Int) * k, (q.2 : Nat) * k]) ↔ p = q := by
      simp only [List.cons.injEq, and_true]
      rw [mulk_eq hk, mulk_eq hk]
      exact ⟨fun h => Prod.ext h.1 h.2, fun h => by rw [h]; exact ⟨rfl, rfl⟩⟩
    by_cases hpq : p = q
    · rw [decide_eq_true (hi.mpr hpq), decide_eq_false (by simpa using hpq)]
      rfl
    · rw [decide_eq_false (fun z => hpq (hi.mp z)), decide_eq_true hpq]
      rfl
  have i0 : ∀ r : Sq, dIx (sq k r) (.int 0) = some (.int ((r.1 : Nat) * k)) := fun r => by simp [sq]
  have i1 : ∀ r : Sq, dIx (sq k r) (.int 1) = some (.int ((r.2 : Nat) * k)) := fun r => by simp [sq]
  unfold g_is_worse
  simp only [b_is_worse]
  unfold B_is_worse
  simp only [bin_s, ne, i0, i1, dLe_ii, mulk_le hk, andV_b, Option.map_some, Option.bind_some, finP_rt]
  rfl
/-! what is known of the way -/
def oD (x : Bx) : Option (Sq × Nat) → D
  | none => .none
  | some (l, sd) => .tuple [sq x.k l, .tuple [.int ((((kn x).w l + 1 : Nat) : Int) * x.k), .int (sd : Nat)]]
def enD (x : Bx) (e : En) : D × D := (sq x.k e.1, oD x e.2)
def kys (k : Int) (s : Sq) : List Key := [.inl ((s.1 : Nat) * k), .inl ((s.2 : Nat) * k)]
theorem keys_sq (k : Int) (s : Sq) : keysOf (sq k s) = some (kys k s) := rfl
theorem keyDs_sq (k : Int) (s : Sq) : keyDs (kys k s) = sq k s := rfl
theorem isT_sq {k : Int} (hk : 1 ≤ k) (s t : Sq) : isT (kys k s) (sq k t) = decide (t = s) := by
  rw [← keyDs_sq k t, isT_keyDs]
  refine decide_eq_decide.mpr ⟨fun h => ?_, fun h => by rw [h]⟩
  have : keyDs (kys k t) = keyDs (kys k s) := by rw [h]
  exact (sq_inj hk).mp this
theorem get_sq {x : Bx} (hk : 1 ≤ x.k) (s : Sq) : ∀ A : List En, getT (A.map (enD x)) (kys x.k s) = (at_ A s).map (oD x)
  | [] => rfl
  | e :: r => by
    have ih := get_sq hk s r
    unfold getT at_ at ih ⊢
    rw [List.map_cons, List.find?_cons, List.find?_cons]
    have : isT (kys x.k s) (enD x e).1 = decide (e.1 = s) := isT_sq hk s e.1
    rw [this]
    cases decide (e.1 = s) with
    | true => rfl
    | false => exact ih
theorem any_at (A : List En) (s : Sq) : (at_ A s).isSome = A.any fun e => decide (e.1 = s) := by
  unfold at_
  rw [Option.isSome_map, List.isSome_find?]
theorem put_sq {x : Bx} (hk : 1 ≤ x.k) {s : Sq} {A : List En} (h : A.any (fun e => decide (e.1 = s)) = false) (o : Option (Sq × Nat)) : putT (A.map (enD x)) (kys x.k s) (oD x o) = (A ++ [(s, o)]).map (enD x) := by
  unfold putT
  have : ((A.map (enD x)).any fun p => isT (kys x.k s) p.1) = false := by
    rw [List.any_map, ← h]
    congr 1
    funext e
    exact isT_sq hk s e.1
  rw [this, if_neg (by decide), keyDs_sq, List.map_append]
  rfl
theorem made_sq {x : Bx} (l : Sq) {sd : Nat} (h : sd ≤ 1) : (iteO ((bin dEq (some (.int (sd : Nat))) (some (.int 0))).bind isB) ((lenOk (consO (some (.int ((((kn x).w l + 1 : Nat) : Int) * x.k))) (consO (bin dIx (some (sq x.k l)) (some (.int 1))) (some [])))).map .tuple) ((lenOk (consO (bin dIx (some (sq x.k l)) (some (.int 0))) (consO (some (.int ((((kn x).w l + 1 : Nat) : Int) * x.k))) (some [])))).map .tuple)) = some (sq x.k ((kn x).made l sd)) := by
  have i0 : dIx (sq x.k l) (.int 0) = some (.int ((l.1 : Nat) * x.k)) := by simp [sq]
  have i1 : dIx (sq x.k l) (.int 1) = some (.int ((l.2 : Nat) * x.k)) := by simp [sq]
  have l2 : ∀ p q : D, lenOk (some [p, q]) = some [p, q] := fun _ _ => rfl
  simp only [bin_s, i0, i1, dEq_ii, Option.bind_some, isB_s, consO_s, l2, Option.map_some]
  have hsd : sd = 0 ∨ sd = 1 := by omega
  rcases hsd with rfl | rfl
  · rfl
  · rfl
theorem s_add2 {x : Bx} (hk : 1 ≤ x.k) (l : Sq) {sd : Nat} (h : sd ≤ 1) (S : List En × List Sq) (h1 : S.1.length < 100000) (h2 : S.2.length < 100000) :
    L2_told_fewest (sq x.k l) (.int ((((kn x).w l + 1 : Nat) : Int) * x.k)) (S.1.map (enD x), S.2.map (sq x.k)) (.int (sd : Nat)) = some (.nx ((((kn x).add2 l S sd).1.map (enD x)), ((kn x).add2 l S sd).2.map (sq x.k))) := by
  have e1 := made_sq (x := x) l h
  have l2 : ∀ p q : D, lenOk (some [p, q]) = some [p, q] := fun _ _ => rfl
  have e2 : (getT (S.1.map (enD x)) (kys x.k ((kn x).made l sd))).isSome = S.1.any fun e => decide (e.1 = (kn x).made l sd) := by
    rw [get_sq hk, Option.isSome_map, any_at]
  unfold L2_told_fewest
  rw [e1, Option.bind_some]
  unfold Kn.add2
  cases hq : S.1.any (fun e => decide (e.1 = (kn x).made l sd)) with
  | true =>
    rw [if_pos rfl]
    simp only [Option.bind_some, keys_sq, Option.map_some, e2, hq, Bool.not_true, iteO_f, seqFl_nx]
  | false =>
    rw [if_neg (by decide)]
    have e3 : setT (S.1.map (enD x)) (sq x.k ((kn x).made l sd)) (.tuple [sq x.k l, .tuple [.int ((((kn x).w l + 1 : Nat) : Int) * x.k), .int (sd : Nat)]]) = some ((S.1 ++ [((kn x).made l sd, some (l, sd))]).map (enD x)) := by
      unfold setT
      rw [keys_sq, Option.bind_some, if_pos (by rw [List.length_map]; exact h1)]
      rw [← put_sq hk hq]
      rfl
    have e4 := appD_s (ds := S.2.map (sq x.k)) (d := sq x.k ((kn x).made l sd)) (by rw [List.length_map]; exact h2)
    simp only [Option.bind_some, keys_sq, Option.map_some, e2, hq, Bool.not_false, iteO_t, seqFl_nx, consO_s, l2, e3, e4, List.map_append, List.map_cons, List.map_nil]
theorem add2_len (c : Kn) (l : Sq) (S : List En × List Sq) (sd : Nat) : (c.add2 l S sd).1.length ≤ S.1.length + 1 ∧ (c.add2 l S sd).2.length ≤ S.2.length + 1 := by
  unfold Kn.add2
  split
  · exact ⟨by omega, by omega⟩
  · exact ⟨by simp, by simp⟩
theorem s_add1 {x : Bx} (h : x.Ok) (l : Sq) (hl : l.1 ≤ 500 ∧ l.2 ≤ 500) (S : List En × List Sq) (h1 : S.1.length < 90000) (h2 : S.2.length < 90000) :
    L3_told_fewest (kpD x) (S.1.map (enD x), S.2.map (sq x.k)) (sq x.k l) = some (.nx ((((kn x).add1 S l).1.map (enD x)), ((kn x).add1 S l).2.map (sq x.k))) := by
  have e1 := s_limit h hl.1 hl.2
  have l2 : lenOk (some [PyData.int 0, .int 1]) = some [.int 0, .int 1] := rfl
  have a1 := s_add2 h.k0 l (sd := 0) (by decide) S (by omega) (by omega)
  have q := add2_len (kn x) l S 0
  have a2 := s_add2 h.k0 l (sd := 1) (by decide) ((kn x).add2 l S 0) (by omega) (by omega)
  have a1' : L2_told_fewest (sq x.k l) (.int ((((kn x).w l + 1 : Nat) : Int) * x.k)) (S.1.map (enD x), S.2.map (sq x.k)) (.int 0) = _ := a1
  have a2' : L2_told_fewest (sq x.k l) (.int ((((kn x).w l + 1 : Nat) : Int) * x.k)) (((kn x).add2 l S 0).1.map (enD x), ((kn x).add2 l S 0).2.map (sq x.k)) (.int 1) = _ := a2
  unfold L3_told_fewest
  simp only [consO_s, Option.bind_some, e1, l2, Option.map_some, iterS_t, forF_cons, a1', a2', forF_nil, seqLp_nx]
  rfl
end DL

set_option Elab.async false
set_option linter.all false
set_option maxRecDepth 100000
set_option maxHeartbeats 4000000
set_option autoImplicit false
namespace DL
open PySem PySem.Spec PyProof.Rows L2 K75
/-! ### the search's end -/
def lD (k : Int) (p : Nat × Nat) : D := .tuple [.int ((p.1 : Nat) * k), .int (p.2 : Nat)]
theorem whileF_go {L R : Type} {t : L → Option Bool} {f : L → Option (Fl L L R)} {n : Nat} {l l' : L} (h1 : t l = some true) (h2 : f l = some (.nx l')) : whileF t f (n + 1) l = whileF t f n l' := by
  show ((t l).bind _) = _
  rw [h1, Option.bind_some, if_pos rfl, h2]
  rfl
theorem whileF_end {L R : Type} {t : L → Option Bool} {f : L → Option (Fl L L R)} {n : Nat} {l : L} (h1 : t l = some false) : whileF t f (n + 1) l = some (.nx l) := by
  show ((t l).bind _) = _
  rw [h1, Option.bind_some, if_neg (by decide)]
theorem whileF_rt {L R : Type} {t : L → Option Bool} {f : L → Option (Fl L L R)} {n : Nat} {l : L} {z : R} (h1 : t l = some true) (h2 : f l = some (.rt z)) : whileF t f (n + 1) l = some (.rt z) := by
  show ((t l).bind _) = _
  rw [h1, Option.bind_some, if_pos rfl, h2]
  rfl
theorem s_back {x : Bx} (hk : 1 ≤ x.k) {A : List En} {n : Nat} {s : Sq} {ls : List (Nat × Nat)} (h : Chain (kn x) A n s ls) : ∀ (fuel : Nat) (acc : List D), n < fuel → acc.length + n ≤ 1000 →
    ∃ z, whileF (L := List D × D) (R := D) (fun l9 => ((bin dIsNot ((some l9.2).bind fun q => (keysOf q).bind (getT (A.map (enD x)))) (some .none)).bind isB)) (L1_told_fewest (A.map (enD x))) fuel (acc, sq x.k s) = some (.nx (acc ++ ls.reverse.map (lD x.k), z)) := by
  induction h with
  | @zero s e =>
    intro fuel acc hf hl
    obtain ⟨f, rfl⟩ : ∃ f, fuel = f + 1 := ⟨fuel - 1, by omega⟩
    have g := get_sq (x := x) hk s A
    rw [e] at g
    refine ⟨sq x.k s, (whileF_end (by simp only [Option.bind_some, keys_sq, g, Option.map_some, oD, bin_s, dIsNot_n, isN_none, Bool.not_true, isB_s])).trans (by simp)⟩
  | @succ n s l sd ls e h1 h2 h3 ih =>
    intro fuel acc hf hl
    obtain ⟨f, rfl⟩ : ∃ f, fuel = f + 1 := ⟨fuel - 1, by omega⟩
    have g := get_sq (x := x) hk s A
    rw [e] at g
    obtain ⟨z, hz⟩ := ih f (acc ++ [lD x.k ((kn x).w l + 1, sd)]) (by omega) (by rw [List.length_append]; simp; omega)
    refine ⟨z, ?_⟩
    have e1 : L1_told_fewest (A.map (enD x)) (acc, sq x.k s) = some (.nx (acc ++ [lD x.k ((kn x).w l + 1, sd)], sq x.k l)) := by
      have a := appD_s (ds := acc) (d := lD x.k ((kn x).w l + 1, sd)) (by omega)
      unfold L1_told_fewest
      simp only [Option.bind_some, keys_sq, g, Option.map_some, oD, un2_s]
      show (appD acc (lD x.k ((kn x).w l + 1, sd))).bind _ = _
      rw [a]
      rfl
    refine (whileF_go (by simp only [Option.bind_some, keys_sq, g, Option.map_some, oD, bin_s, dIsNot_n, isN_tuple, Bool.not_false, isB_s]) e1).trans (hz.trans ?_)
    simp
theorem lay_small {c : Kn} {n : Nat} {A : List En} {L : List Sq} (Y : Lay c n A L) (hn : n ≤ 101) : A.length ≤ 10404 ∧ L.length ≤ 10404 := by
  have h1 := few Y.nd Y.le
  have h2 : (n + 1) * (n + 1) ≤ 102 * 102 := Nat.mul_le_mul (by omega) (by omega)
  have := Y.len
  omega
theorem rnd_small {c : Kn} {n : Nat} {A : List En} {S : List En × List Sq} (R : Rnd c n A S) (hn : n ≤ 100) : S.1.length ≤ 10404 ∧ S.2.length ≤ 10404 := by
  have h1 := few R.nd R.le
  have h2 : (n + 1 + 1) * (n + 1 + 1) ≤ 102 * 102 := Nat.mul_le_mul (by omega) (by omega)
  obtain ⟨B, h3, h4⟩ := R.ext
  have h5 : S.2.length ≤ S.1.length := by rw [← h4, h3, List.length_map, List.length_append]; omega
  omega
theorem s_round {x : Bx} (h : x.Ok) {n : Nat} (hn : n ≤ 100) {A : List En} {L : List Sq} (Y : Lay (kn x) n A L) :
    forF (L := List (D × D) × List D) (R := D) (fun l y => (some y).bind (L3_told_fewest (kpD x) l)) (L.map (sq x.k)) (A.map (enD x), []) = some (.nx ((L.foldl (kn x).add1 (A, [])).1.map (enD x), (L.foldl (kn x).add1 (A, [])).2.map (sq x.k))) := by
  have inL : ∀ l ∈ L, (l.1 ≤ n ∧ l.2 ≤ n) ∧ ∃ ls, Chain (kn x) A n l ls := fun l hl => by
    obtain ⟨e, h1, h2⟩ := Y.mem l hl
    exact ⟨by rw [← h2]; exact Y.le e h1, Y.ch l hl⟩
  have R0 : Rnd (kn x) n A (A, []) := ⟨⟨[], by simp, rfl⟩, Y.nd, fun e he => by have := Y.le e he; exact ⟨by omega, by omega⟩, fun s h => by cases h⟩
  exact (forF_fold (f := fun l y => (some y).bind (L3_told_fewest (kpD x) l)) (sq x.k) (fun S : List En × List Sq => (S.1.map (enD x), S.2.map (sq x.k))) (kn x).add1 (fun _ S => Rnd (kn x) n A S) L (A, []) 0 R0 fun i l S hi R => by
    obtain ⟨h1, h2⟩ := inL l (List.mem_of_getElem? hi)
    have q := rnd_small R hn
    exact ⟨s_add1 h l ⟨by omega, by omega⟩ S (by omega) (by omega), (R.add1 h1 h2).1⟩).1
theorem nice_sqs {k : Int} (hk : 1 ≤ k) (hk2 : k ≤ 50) {L : List Sq} (h : ∀ s ∈ L, s.1 ≤ 500 ∧ s.2 ≤ 500) : nice (.list (L.map (sq k))) = true ∧ PyData.depth (.list (L.map (sq k))) ≤ 64 := by
  have e : L.map (sq k) = (L.map fun s => [((s.1 : Nat) : Int) * k, (s.2 : Nat) * k]).map tIs := by rw [List.map_map]; rfl
  rw [e]
  refine ⟨nice_rows fun r hr z hz => ?_, ?_⟩
  · obtain ⟨s, hs, rfl⟩ := List.mem_map.mp hr
    have b1 := mulk_small (a := s.1) hk hk2 (h s hs).1
    have b2 := mulk_small (a := s.2) hk hk2 (h s hs).2
    simp only [List.mem_cons, List.not_mem_nil, or_false] at hz
    rcases hz with rfl | rfl <;> omega
  · show PyData.depthAll _ + 1 ≤ 64
    have := depth_rows (L.map fun s => [((s.1 : Nat) : Int) * k, (s.2 : Nat) * k])
    omega
theorem s_go {x : Bx} (h : x.Ok) {n : Nat} (hn : n ≤ 100) {A : List En} {L : List Sq} (Y : Lay (kn x) n A L) {u : Int} (hu : ((n + 1 : Nat) : Int) * x.k < u) :
    L4_told_fewest (.int u) (kpD x) (.list (L.map (sq x.k)), A.map (enD x)) = some (.nx (.list ((next (L.foldl (kn x).add1 (A, [])).2).map (sq x.k)), (L.foldl (kn x).add1 (A, [])).1.map (enD x))) := by
  have k0 := h.k0
  have k1 := h.k1
  have inL : ∀ l ∈ L, l.1 ≤ n ∧ l.2 ≤ n := fun l hl => by
    obtain ⟨e, h1, h2⟩ := Y.mem l hl
    rw [← h2]; exact Y.le e h1
  have e1 := lcF_map (pm := some) (mt := fun p6 : D => ((bin dGe (g_told_limit [kpD x, p6]) (some (.int u))).bind isB)) (me := fun p6 : D => some p6) (sq x.k) (fun s => decide (u ≤ (((kn x).w s + 1 : Nat) : Int) * x.k)) (sq x.k) L fun s hs => ⟨_, rfl, by
    have := inL s hs
    rw [s_limit h (by omega) (by omega), bin_s, dGe_ii]
    rfl, fun _ => rfl⟩
  have e2 : L.filter (fun s => decide (u ≤ (((kn x).w s + 1 : Nat) : Int) * x.k)) = [] := List.filter_eq_nil_iff.mpr fun s hs q => by
    have := of_decide_eq_true q
    have hw := w_le (kn x) (inL s hs).1 (inL s hs).2
    have := (mulk_le (k := x.k) (a := (kn x).w s + 1) (b := n + 1) k0).mpr (by omega)
    omega
  rw [e2] at e1
  have l0 : lenOk (some ([] : List D)) = some [] := rfl
  have ne : dNe (.list []) (.list []) = some (.bool false) := rfl
  have e3 := s_round h hn Y
  obtain ⟨Y', q1, q2⟩ := Y.next
  have sm := lay_small Y' (by omega)
  generalize L.foldl (kn x).add1 (A, []) = S at e3 Y' q1 q2 sm ⊢
  have inS : ∀ s ∈ S.2, s.1 ≤ n + 1 ∧ s.2 ≤ n + 1 := fun s hs => by
    obtain ⟨e, h1, h2⟩ := q2 s hs
    rw [← h2]; exact Y'.le e h1
  have w1 : ∀ a ∈ S.2, lcF some (fun _ : D => some true) (fun p54 : D => (g_is_worse [sq x.k a, p54])) (S.2.map (sq x.k)) = some (S.2.map fun q => .bool (worse a q)) := fun a ha =>
    lcF_all (pm := some) (me := fun p54 : D => (g_is_worse [sq x.k a, p54])) (sq x.k) (fun q => .bool (worse a q)) S.2 fun q hq => ⟨_, rfl, by
      have g1 := inS a ha
      have g2 := inS q hq
      exact s_worse k0 (by omega) (by omega) (by omega) (by omega) (by omega)⟩
  have e4 := lcF_map (pm := some) (mt := fun p53 : D => (((((lenOk ((lcF some (fun _ : D => some true) (fun p54 : D => (g_is_worse [p53, p54]))) (S.2.map (sq x.k)))).map PyData.list).bind fun z => dAny [z]).bind isB).map (!·))) (me := fun p53 : D => some p53) (sq x.k) (fun a => !S.2.any fun q => worse a q) (sq x.k) S.2 fun a ha => ⟨_, rfl, by
    have da := dAny_map (fun q => worse a q) S.2
    rw [w1 a ha, lenOk_s (by rw [List.length_map]; omega), Option.map_some, Option.bind_some, da]
    rfl, fun _ => rfl⟩
  have e5 : lenOk (some ((S.2.filter fun a => !S.2.any fun q => worse a q).map (sq x.k))) = some ((next S.2).map (sq x.k)) := lenOk_s (by
    have := List.length_filter_le (fun a => !S.2.any fun q => worse a q) S.2
    rw [List.length_map]
    omega)
  have cb : ∀ (m : Option D), consO m (some []) = m.map fun z => [z] := fun m => by cases m <;> rfl
  unfold L4_told_fewest
  simp only [Option.bind_some, iterS_l, consO_s, e1, List.map_nil, l0, Option.map_some, bin_s, ne, isB_s, iteO_f]
  simp only [Option.bind_some] at e3
  rw [e3]
  simp only [Option.bind_some, seqLp_nx, iterT_l]
  rw [show (fun p53 : D => Option.map (fun b => !b) (((consO (Option.map PyData.list (lenOk (lcF some (fun p54 : D => some true) (fun p54 : D => g_is_worse [p53, p54]) (S.2.map (sq x.k))))) (some [])).bind dAny).bind isB)) = (fun p53 : D => (((((lenOk ((lcF some (fun _ : D => some true) (fun p54 : D => (g_is_worse [p53, p54]))) (S.2.map (sq x.k)))).map PyData.list).bind fun z => dAny [z]).bind isB).map (!·))) from funext fun p53 => by
    rw [cb]
    generalize (Option.map PyData.list (lenOk (lcF some (fun p54 : D => some true) (fun p54 : D => g_is_worse [p53, p54]) (S.2.map (sq x.k))))) = M
    cases M <;> rfl]
  rw [e4, e5]
  rfl
end DL

set_option Elab.async false
set_option linter.all false
set_option maxRecDepth 100000
set_option maxHeartbeats 4000000
set_option autoImplicit false
namespace DL
open PySem PySem.Spec PyProof.Rows L2 K75
/-! ### the fewest letters -/
structure Few (k u : Int) (N : Nat) (ls : List (Nat × Nat)) : Prop where
  ticks : ls.map (·.1) = (List.range N).map (· + 1)
  side : ∀ p ∈ ls, p.2 ≤ 1
theorem s_stop {x : Bx} (h : x.Ok) {n : Nat} (hn : n ≤ 100) {A : List En} {L : List Sq} (Y : Lay (kn x) n A L) {u : Int} (hu : u ≤ ((n + 1 : Nat) : Int) * x.k) (hg : n = 0 ∨ ((n : Nat) : Int) * x.k < u) :
    ∃ ls, Few x.k u n ls ∧ L4_told_fewest (.int u) (kpD x) (.list (L.map (sq x.k)), A.map (enD x)) = some (.rt (.list (ls.map (lD x.k)))) := by
  have k0 := h.k0
  have k1 := h.k1
  have inL : ∀ l ∈ L, l.1 ≤ n ∧ l.2 ≤ n := fun l hl => by
    obtain ⟨e, h1, h2⟩ := Y.mem l hl
    rw [← h2]; exact Y.le e h1
  have e1 := lcF_map (pm := some) (mt := fun p6 : D => ((bin dGe (g_told_limit [kpD x, p6]) (some (.int u))).bind isB)) (me := fun p6 : D => some p6) (sq x.k) (fun s => decide (u ≤ (((kn x).w s + 1 : Nat) : Int) * x.k)) (sq x.k) L fun s hs => ⟨_, rfl, by
    have := inL s hs
    rw [s_limit h (by omega) (by omega), bin_s, dGe_ii]
    rfl, fun _ => rfl⟩
  have sm := lay_small Y (by omega)
  have l0 : lenOk (some ([] : List D)) = some [] := rfl
  obtain ⟨t, ht, htw⟩ := Y.top
  have hne : t ∈ L.filter (fun s => decide (u ≤ (((kn x).w s + 1 : Nat) : Int) * x.k)) := List.mem_filter.mpr ⟨ht, decide_eq_true (by rw [htw]; exact hu)⟩
  have hlen := List.length_filter_le (fun s => decide (u ≤ (((kn x).w s + 1 : Nat) : Int) * x.k)) L
  have hin : ∀ s ∈ L.filter (fun s => decide (u ≤ (((kn x).w s + 1 : Nat) : Int) * x.k)), s ∈ L ∧ u ≤ (((kn x).w s + 1 : Nat) : Int) * x.k := fun s hs => ⟨(List.mem_filter.mp hs).1, of_decide_eq_true (List.mem_filter.mp hs).2⟩
  generalize L.filter (fun s => decide (u ≤ (((kn x).w s + 1 : Nat) : Int) * x.k)) = F at e1 hne hlen hin
  match F, hne with
  | f :: r, _ =>
    obtain ⟨hf, hfu⟩ := hin f List.mem_cons_self
    obtain ⟨ls, hch⟩ := Y.ch f hf
    obtain ⟨q1, q2, q3, q4⟩ := hch.top Y.org
    have hw : (kn x).w f = n := by
      rcases hg with hg | hg
      · omega
      · by_cases z : (kn x).w f = n
        · exact z
        · have := (mulk_le (k := x.k) (a := (kn x).w f + 1) (b := n) k0).mpr (by omega)
          omega
    refine ⟨ls, ⟨q4 hw, q3⟩, ?_⟩
    obtain ⟨z, hz⟩ := s_back (x := x) k0 hch 1000000 [] (by omega) (by simp; omega)
    have e2 : lenOk (some ((f :: r).map (sq x.k))) = some ((f :: r).map (sq x.k)) := lenOk_s (by rw [List.length_map]; omega)
    obtain ⟨n1, n2⟩ := nice_sqs (L := f :: r) k0 (by omega) fun s hs => by have := inL s (hin s hs).1; omega
    have ne : dNe (.list ((f :: r).map (sq x.k))) (.list []) = some (.bool true) := by
      rw [dNe_nice n1 (show nice (.list []) = true from rfl) n2 (by decide)]
      rfl
    have i0 : dIx (.list ((f :: r).map (sq x.k))) (.int 0) = some (sq x.k f) := by simp
    rw [List.nil_append] at hz
    have rv : revL (.list (ls.reverse.map (lD x.k))) = some (ls.map (lD x.k)) := by
      show some (ls.reverse.map (lD x.k)).reverse = _
      rw [← List.map_reverse, List.reverse_reverse]
    generalize (f :: r).map (sq x.k) = FF at e1 e2 ne i0
    unfold L4_told_fewest
    simp only [Option.bind_some, bin_s] at hz
    simp only [Option.bind_some, iterS_l, consO_s, e1, e2, l0, Option.map_some, bin_s, ne, isB_s, iteO_t, two_s, liftX_s, i0, hz, seqLp_nx, rv, cast_rt]
theorem s_loop {x : Bx} (h : x.Ok) {u : Int} {N : Nat} (hN : N ≤ 100) (hu : u ≤ ((N + 1 : Nat) : Int) * x.k) (hg : N = 0 ∨ ((N : Nat) : Int) * x.k < u) : ∀ (m n : Nat) (A : List En) (L : List Sq) (fuel : Nat), Lay (kn x) n A L → n + m = N → m < fuel →
    ∃ ls, Few x.k u N ls ∧ whileF (L := D × List (D × D)) (R := D) (fun l3 => ((some (.bool true)).bind isB)) (L4_told_fewest (.int u) (kpD x)) fuel (.list (L.map (sq x.k)), A.map (enD x)) = some (.rt (.list (ls.map (lD x.k))))
  | 0, n, A, L, fuel, Y, e, hf => by
    obtain ⟨f, rfl⟩ : ∃ f, fuel = f + 1 := ⟨fuel - 1, by omega⟩
    have en : n = N := by omega
    subst en
    obtain ⟨ls, h1, h2⟩ := s_stop h hN Y hu hg
    exact ⟨ls, h1, whileF_rt rfl h2⟩
  | m + 1, n, A, L, fuel, Y, e, hf => by
    obtain ⟨f, rfl⟩ : ∃ f, fuel = f + 1 := ⟨fuel - 1, by omega⟩
    have hlt : ((n + 1 : Nat) : Int) * x.k < u := by
      rcases hg with hg | hg
      · omega
      · have := (mulk_le (k := x.k) (a := n + 1) (b := N) h.k0).mpr (by omega)
        omega
    have e1 := s_go h (by omega) Y hlt
    obtain ⟨ls, h1, h2⟩ := s_loop h hN hu hg m (n + 1) _ _ f Y.next.1 (by omega) (by omega)
    exact ⟨ls, h1, (whileF_go (t := fun _ : D × List (D × D) => ((some (PyData.bool true)).bind isB)) rfl e1).trans h2⟩
theorem s_told {x : Bx} (h : x.Ok) {u : Int} {N : Nat} (hN : N ≤ 100) (hu : u ≤ ((N + 1 : Nat) : Int) * x.k) (hg : N = 0 ∨ ((N : Nat) : Int) * x.k < u) : ∃ ls, Few x.k u N ls ∧ g_told_fewest [hoD [x], .int u] = some (.list (ls.map (lD x.k))) := by
  obtain ⟨ls, h1, h2⟩ := s_loop h hN hu hg N 0 [((0, 0), none)] [(0, 0)] 1000000 (lay0 (kn x)) (by omega) (by omega)
  refine ⟨ls, h1, ?_⟩
  have e1 := s_keeps h
  have l2 : ∀ p q : D, lenOk (some [p, q]) = some [p, q] := fun _ _ => rfl
  have l1 : ∀ p : D, lenOk (some [p]) = some [p] := fun _ => rfl
  have s0 : sq x.k (0, 0) = .tuple [.int 0, .int 0] := by simp [sq]
  have k0 : keysOf (.tuple [.int 0, .int 0]) = some [.inl 0, .inl 0] := rfl
  have h2' : whileF (L := D × List (D × D)) (R := D) (fun l3 => ((some (.bool true)).bind isB)) (L4_told_fewest (.int u) (kpD x)) 1000000 (.list [.tuple [.int 0, .int 0]], [(keyDs [.inl 0, .inl 0], .none)]) = some (.rt (.list (ls.map (lD x.k)))) := by
    have q : ([(0, 0)] : List Sq).map (sq x.k) = [.tuple [.int 0, .int 0]] := by rw [List.map_cons, List.map_nil, s0]
    have q2 : ([((0, 0), none)] : List En).map (enD x) = [(keyDs [.inl 0, .inl 0], .none)] := by
      show [(sq x.k (0, 0), _)] = _
      rw [s0]
      rfl
    rw [q, q2] at h2
    exact h2
  unfold g_told_fewest
  simp only [b_told_fewest]
  unfold B_told_fewest
  simp only [Option.bind_some] at h2'
  simp only [consO_s, Option.bind_some, e1, l2, l1, Option.map_some, un2_s, two_s, liftX_s, k0, h2', seqLp_rt, finP_rt]
end DL

set_option Elab.async false
set_option linter.all false
set_option maxRecDepth 100000
set_option maxHeartbeats 4000000
set_option autoImplicit false
namespace DL
open PySem PySem.Spec PyProof.Rows L2 K75
/-! ### numbers that meet all spans -/
def spD (k : Int) (i : Nat) : D := .tuple [.int (1 + (i : Nat)), .int (1 + (i : Nat) + k - 1)]
abbrev spsD (k : Int) (m : Nat) : D := .tuple ((List.range m).map (spD k))
def ptL (k : Int) (c : Nat) : List Int := (List.range c).map fun j => ((j + 1 : Nat) : Int) * k
def loL (k : Int) (c : Nat) : List Int := (List.range c).map fun j => ((j : Nat) : Int) * k
structure Spn (k : Int) (m : Nat) : Prop where
  k0 : 1 ≤ k
  k1 : k ≤ 50
  m0 : 1 ≤ m
  m1 : m ≤ 200
abbrev BIG : Int := 1000000000000
theorem s_intsG {lo hi : Int} (xs : List Int) (h : ∀ x ∈ xs, lo ≤ x ∧ x ≤ hi) (hl : xs.length ≤ 100000) : g_are_ints [.tuple (xs.map .int), .int lo, .int hi] = some (.bool true) := by
  have e := lcF_all (pm := some) (me := fun p1 : D => (g_is_int [p1, .int lo, .int hi])) (fun i : Int => .int i) (fun _ => PyData.bool true) xs fun i hi => ⟨_, rfl, s_int (h i hi).1 (h i hi).2⟩
  have l2 : lenOk (some (xs.map fun _ => PyData.bool true)) = some (xs.map fun _ => PyData.bool true) := lenOk_s (by rw [List.length_map]; exact hl)
  have e3 := dAll_map (fun _ : Int => true) xs
  have e4 : xs.all (fun _ => true) = true := by simp
  rw [e4] at e3
  unfold g_are_ints
  simp only [b_are_ints]
  unfold B_are_ints
  simp only [Option.bind_some, isi_tuple_t, andV_t, iterS_t, consO_s, e, l2, Option.map_some, e3, finP_rt]
theorem s_look_spans {k : Int} {m : Nat} (h : Spn k m) : g_look_at_spans [spsD k m] = some .none := by
  obtain ⟨k0, k1, m0, m1⟩ := h
  have e := (forF_fold (f := fun l y => (some y).bind (L1_look_at_spans (spsD k m) l)) (spD k) (fun l : Unit => l) (fun l _ => l) (fun _ _ => True) (List.range m) () 0 trivial fun i t s hi _ => by
    have ht := List.mem_range.mp (List.mem_of_getElem? hi)
    have q := s_intsG (lo := -BIG) (hi := BIG) [1 + (t : Nat), 1 + (t : Nat) + k - 1] (fun x hx => by
      simp only [List.mem_cons, List.not_mem_nil, or_false] at hx
      have hB : BIG = 1000000000000 := rfl
      rcases hx with rfl | rfl <;> omega) (show 2 ≤ 100000 by decide)
    have q' : g_are_ints [.tuple [.int (1 + (t : Nat)), .int (1 + (t : Nat) + k - 1)], .int (-1000000000000), .int 1000000000000] = some (.bool true) := q
    have hlt : ¬ (1 + (t : Int) + k - 1 < 1 + (t : Int)) := by omega
    refine ⟨?_, trivial⟩
    simp only [Option.bind_some]
    generalize spsD k m = S
    simp [L1_look_at_spans, spD, q', hlt]).1
  simp only [Option.bind_some] at e
  have e1 : (1 : Int) ≤ (m : Nat) := by omega
  have e2 : ((m : Nat) : Int) ≤ 200 := by omega
  have hl : dLen [spsD k m] = some (.int (m : Nat)) := by rw [dLen_t]; simp
  have hi : iterS (spsD k m) = some ((List.range m).map (spD k)) := rfl
  have ht : dIsi "tuple" (spsD k m) = some (.bool true) := rfl
  generalize spsD k m = S at e hl hi ht ⊢
  simp [g_look_at_spans, b_look_at_spans, B_look_at_spans, chainO, e1, e2, e, hl, hi, ht]
theorem sorted_ups {xs : List Int} (hu : xs.Pairwise (· < ·)) (hl : xs.length ≤ 100000) : dSorted [.list (xs.map .int)] = some (xs.map .int) := by
  have ok : sortOk (xs.map PyData.int) = true := by
    unfold sortOk
    rw [alike_ints, decide_eq_true (by rw [List.length_map]; exact hl), Bool.true_and, Bool.true_and, Bool.or_eq_true]
    right
    rw [List.all_eq_true]
    intro d hd
    obtain ⟨a, ha, rfl⟩ := List.mem_map.mp hd
    rfl
  have hs : sortedD (xs.map PyData.int) = xs.map .int := sorted_unique (List.Perm.refl _) (by
    rw [List.pairwise_map]
    exact hu.imp fun {a b} h => (lt_int _ _).trans (decide_eq_true h))
  show (seqD (PyData.list (xs.map .int))).bind (fun ds => if sortOk ds || sortOk2 ds then some (sortedD ds) else none) = _
  rw [seqD_l, Option.bind_some, ok, Bool.true_or, if_pos rfl, hs]
theorem mulk_lt {k : Int} {a b : Nat} (hk : 1 ≤ k) : ((a : Nat) : Int) * k < (b : Nat) * k ↔ a < b := by
  have := mulk_le (k := k) (a := b) (b := a) hk
  constructor <;> intro h <;> omega
theorem range_up (n : Nat) : (List.range n).Pairwise (· < ·) := List.pairwise_lt_range
theorem loL_up {k : Int} (hk : 1 ≤ k) (c : Nat) : (loL k c).Pairwise (· < ·) := by
  unfold loL
  rw [List.pairwise_map]
  exact (range_up c).imp fun h => (mulk_lt hk).mpr h
theorem ptL_up {k : Int} (hk : 1 ≤ k) (c : Nat) : (ptL k c).Pairwise (· < ·) := by
  unfold ptL
  rw [List.pairwise_map]
  exact (range_up c).imp fun h => (mulk_lt hk).mpr (by omega)
theorem ptL_len (k : Int) (c : Nat) : (ptL k c).length = c := by simp [ptL]
theorem loL_len (k : Int) (c : Nat) : (loL k c).length = c := by simp [loL]
theorem ptL_succ (k : Int) (c : Nat) : ptL k (c + 1) = ptL k c ++ [((c + 1 : Nat) : Int) * k] := by simp [ptL, List.range_succ]
theorem loL_succ (k : Int) (c : Nat) : loL k (c + 1) = loL k c ++ [((c : Nat) : Int) * k] := by simp [loL, List.range_succ]
theorem mulk_succ (k : Int) (n : Nat) : ((n + 1 : Nat) : Int) * k = (n : Nat) * k + k := by
  rw [Int.natCast_add, Int.add_mul]
  omega
def stp (k : Int) (c i : Nat) : Nat := if ((c : Nat) : Int) * k ≤ (i : Nat) then c + 1 else c
structure CkI (k : Int) (i c : Nat) : Prop where
  lo : (i : Int) ≤ (c : Nat) * k
  hi : c = 0 ∨ ((c : Nat) : Int) * k < (i : Nat) + k
  le : c ≤ i
theorem s_point {k : Int} {m : Nat} (h : Spn k m) {i c : Nat} (hi : i < m) (I : CkI k i c) : L1_told_points ((ptL k c).map .int, (loL k c).map .int) (.int (1 + (i : Nat) + k - 1), .int (1 + (i : Nat)), .int (i : Nat)) = some (.nx ((ptL k (stp k c i)).map .int, (loL k (stp k c i)).map .int)) ∧ CkI k (i + 1) (stp k c i) := by
  obtain ⟨k0, k1, m0, m1⟩ := h
  have hs := mulk_succ k c
  have hle := I.le
  have hlo := I.lo
  have l0 : lenOk (some ([] : List D)) = some [] := rfl
  have a1 := appD_s (ds := (ptL k c).map PyData.int) (d := .int (1 + (i : Nat) + k - 1)) (by rw [List.length_map, ptL_len]; omega)
  have a2 := appD_s (ds := (loL k c).map PyData.int) (d := .int (i : Nat)) (by rw [List.length_map, loL_len]; omega)
  unfold stp
  by_cases hc : ((c : Nat) : Int) * k ≤ (i : Nat)
  · rw [if_pos hc]
    have hei : (i : Int) = (c : Nat) * k := by omega
    have e1 : (ptL k c).map PyData.int ++ [.int (1 + (i : Nat) + k - 1)] = (ptL k (c + 1)).map .int := by
      rw [ptL_succ, List.map_append, hs, show 1 + (i : Int) + k - 1 = (c : Nat) * k + k by omega]
      rfl
    have e2 : (loL k c).map PyData.int ++ [.int (i : Nat)] = (loL k (c + 1)).map .int := by
      rw [loL_succ, List.map_append, ← hei]
      rfl
    rw [e1] at a1
    rw [e2] at a2
    refine ⟨?_, ⟨by omega, .inr (by omega), by omega⟩⟩
    have tst : orT ((bin dEq (some (.list ((ptL k c).map PyData.int))) ((lenOk (some [])).map .list)).bind isB) ((bin dLt (bin dIx (some (.list ((ptL k c).map PyData.int))) ((some (.int 1)).bind dNeg)) (some (.int (1 + (i : Nat))))).bind isB) = some true := by
      cases c with
      | zero => rfl
      | succ c =>
        have e9 : dEq (.list ((ptL k (c + 1)).map PyData.int)) (.list []) = some (.bool false) := by
          rw [dEq_nice (show nice (.list ((ptL k (c + 1)).map .int)) = true from nice_ints fun z hz => by
            unfold ptL at hz
            obtain ⟨j, hj, rfl⟩ := List.mem_map.mp hz
            have := List.mem_range.mp hj
            have := mulk_small (a := j + 1) k0 k1 (by omega)
            omega) (show nice (.list []) = true from rfl) (by show PyData.depthAll ((ptL k (c + 1)).map .int) + 1 ≤ 64; rw [depth_ints]; decide) (by decide)]
          rw [ptL_succ, List.map_append]
          cases (ptL k c).map PyData.int <;> rfl
        have e8 : dIx (.list ((ptL k (c + 1)).map PyData.int)) (.int (-1)) = some (.int (((c + 1 : Nat) : Int) * k)) := by
          rw [ptL_succ, List.map_append]
          exact dIx_last_l _ _
        simp only [bin_s, l0, Option.map_some, e9, Option.bind_some, isB_s, orT_f, dNeg_i, e8, dLt_ii]
        rw [decide_eq_true (by omega)]
    unfold L1_told_points
    rw [tst]
    simp only [iteO_t, Option.bind_some, a1, a2, seqFl_nx]
  · rw [if_neg hc]
    refine ⟨?_, ⟨by omega, I.hi.imp id fun q => by omega, by omega⟩⟩
    have tst : orT ((bin dEq (some (.list ((ptL k c).map PyData.int))) ((lenOk (some [])).map .list)).bind isB) ((bin dLt (bin dIx (some (.list ((ptL k c).map PyData.int))) ((some (.int 1)).bind dNeg)) (some (.int (1 + (i : Nat))))).bind isB) = some false := by
      cases c with
      | zero => exact absurd (by omega) hc
      | succ c =>
        have e9 : dEq (.list ((ptL k (c + 1)).map PyData.int)) (.list []) = some (.bool false) := by
          rw [dEq_nice (show nice (.list ((ptL k (c + 1)).map .int)) = true from nice_ints fun z hz => by
            unfold ptL at hz
            obtain ⟨j, hj, rfl⟩ := List.mem_map.mp hz
            have := List.mem_range.mp hj
            have := mulk_small (a := j + 1) k0 k1 (by omega)
            omega) (show nice (.list []) = true from rfl) (by show PyData.depthAll ((ptL k (c + 1)).map .int) + 1 ≤ 64; rw [depth_ints]; decide) (by decide)]
          rw [ptL_succ, List.map_append]
          cases (ptL k c).map PyData.int <;> rfl
        have e8 : dIx (.list ((ptL k (c + 1)).map PyData.int)) (.int (-1)) = some (.int (((c + 1 : Nat) : Int) * k)) := by
          rw [ptL_succ, List.map_append]
          exact dIx_last_l _ _
        simp only [bin_s, l0, Option.map_some, e9, Option.bind_some, isB_s, orT_f, dNeg_i, e8, dLt_ii]
        rw [decide_eq_false (by omega)]
    unfold L1_told_points
    rw [tst]
    simp only [iteO_f, Option.bind_some, seqFl_nx]
theorem s_points {k : Int} {m : Nat} (h : Spn k m) : ∃ c, CkI k m c ∧ g_fewest_numbers [spsD k m] = some (.tuple [.tuple ((ptL k c).map .int), .tuple ((loL k c).map .int)]) := by
  obtain ⟨e, I⟩ := forF_fold (f := fun l y => ((un3 some some some) y).bind (L1_told_points l)) (fun i : Nat => .tuple [.int (1 + (i : Nat) + k - 1), .int (1 + (i : Nat)), .int (i : Nat)]) (fun c : Nat => ((ptL k c).map PyData.int, (loL k c).map PyData.int)) (stp k) (fun i c => CkI k i c) (List.range m) 0 0 ⟨by simp, .inl rfl, Nat.le_refl _⟩ fun i t c hi I => by
    obtain ⟨hl, hg⟩ := List.getElem?_eq_some_iff.mp hi
    rw [List.length_range] at hl
    rw [List.getElem_range] at hg
    subst hg
    rw [Nat.zero_add] at I ⊢
    obtain ⟨q1, q2⟩ := s_point h hl I
    exact ⟨q1, q2⟩
  rw [List.length_range, Nat.zero_add] at I
  generalize (List.range m).foldl (stp k) 0 = c at e I
  refine ⟨c, I, ?_⟩
  have e1 := s_look_spans h
  have m1 := h.m1
  have hc := I.le
  have en : enumD (spsD k m) = some ((List.range m).map fun i => .tuple [.int (i : Nat), spD k i]) := enum_rg m (spD k)
  have e2 := lcF_all (pm := un2 some some) (me := fun p16 : (D × D) => ((lenOk (consO (bin dIx (some p16.2) (some (.int 1))) (consO (bin dIx (some p16.2) (some (.int 0))) (consO (some p16.1) (some []))))).map .tuple)) (fun i : Nat => .tuple [.int (i : Nat), spD k i]) (fun i : Nat => .tuple [.int (1 + (i : Nat) + k - 1), .int (1 + (i : Nat)), .int (i : Nat)]) (List.range m) fun i hi => ⟨(.int (i : Nat), spD k i), rfl, by
    have l3 : ∀ p q r : D, lenOk (some [p, q, r]) = some [p, q, r] := fun _ _ _ => rfl
    simp [spD, l3]⟩
  have e3 : lenOk (some ((List.range m).map fun i : Nat => (PyData.tuple [.int (1 + (i : Nat) + k - 1), .int (1 + (i : Nat)), .int (i : Nat)]))) = some ((List.range m).map fun i : Nat => (PyData.tuple [.int (1 + (i : Nat) + k - 1), .int (1 + (i : Nat)), .int (i : Nat)])) := lenOk_s (by simp; omega)
  have e4 : dSorted [.list ((List.range m).map fun i : Nat => (PyData.tuple [.int (1 + (i : Nat) + k - 1), .int (1 + (i : Nat)), .int (i : Nat)]))] = some ((List.range m).map fun i : Nat => (PyData.tuple [.int (1 + (i : Nat) + k - 1), .int (1 + (i : Nat)), .int (i : Nat)])) :=
    sorted_rows (fun i : Nat => [1 + ((i : Nat) : Int) + k - 1, 1 + (i : Nat), (i : Nat)]) (fun a _ => List.cons_ne_nil _ _) ((range_up m).imp fun h => lt_cons (by omega)) (by simp; omega) _ rfl
  have e5 := sorted_ups (loL_up h.k0 c) (by rw [loL_len]; omega)
  have l0 : lenOk (some ([] : List D)) = some [] := rfl
  have l2 : ∀ p q : D, lenOk (some [p, q]) = some [p, q] := fun _ _ => rfl
  have e6 : ((ptL k 0).map PyData.int, (loL k 0).map PyData.int) = (([] : List D), ([] : List D)) := rfl
  rw [e6] at e
  have e7 : g_told_points [spsD k m] = some (.tuple [.tuple ((ptL k c).map .int), .tuple ((loL k c).map .int)]) := by
    generalize spsD k m = S at en
    generalize ((List.range m).map fun i : Nat => (PyData.tuple [.int (1 + (i : Nat) + k - 1), .int (1 + (i : Nat)), .int (i : Nat)])) = R at e e2 e3 e4
    simp only [consO_s] at e2
    unfold g_told_points
    simp only [b_told_points]
    unfold B_told_points
    simp only [two_s, liftX_s, l0, Option.map_some, Option.bind_some, en, e2, e3, consO_s, e4, iterS_l, e, seqLp_nx, dTuple_l, e5, l2, finP_rt]
  unfold g_fewest_numbers
  simp only [b_fewest_numbers]
  unfold B_fewest_numbers
  simp only [consO_s, Option.bind_some, e1, e7, Option.map_some, finP_rt]
end DL

set_option Elab.async false
set_option linter.all false
set_option maxRecDepth 100000
set_option maxHeartbeats 4000000
set_option autoImplicit false
namespace DL
open PySem PySem.Spec PyProof.Rows L2 K75
/-! ### the letters at the numbers hold -/
def few (k s : Int) (N : Nat) : List (Int × Int) := (List.range N).map fun j => (((j + 1 : Nat) : Int) * k, s)
theorem few_ok {x : Bx} (h : x.Ok) {u : Int} {N : Nat} (hN : N ≤ 100) (hg : N = 0 ∨ ((N : Nat) : Int) * x.k < u) : OkL u (few x.k x.s N) := by
  have k0 := h.k0
  refine ⟨?_, fun p hp => ?_, fun p hp => ?_, fun p hp => ?_, fun p hp => ?_, by simp [few]; omega⟩
  · unfold few
    rw [List.pairwise_map]
    exact (range_up N).imp fun h => (mulk_lt k0).mpr (by omega)
  · obtain ⟨j, hj, rfl⟩ := List.mem_map.mp hp
    have := mulk_succ x.k j
    have q : 0 ≤ ((j : Nat) : Int) * x.k := Int.mul_nonneg (by omega) (by omega)
    simp only
    omega
  · obtain ⟨j, hj, rfl⟩ := List.mem_map.mp hp
    have hj := List.mem_range.mp hj
    have := (mulk_le (k := x.k) (a := j + 1) (b := N) k0).mpr (by omega)
    simp only
    omega
  · obtain ⟨j, hj, rfl⟩ := List.mem_map.mp hp
    exact h.s0
  · obtain ⟨j, hj, rfl⟩ := List.mem_map.mp hp
    exact h.s1
theorem few_pick (x : Bx) (N : Nat) : pick x (few x.k x.s N) = (List.range N).map fun j => ((j + 1 : Nat) : Int) * x.k := by
  unfold pick
  rw [List.filter_eq_self.mpr fun p hp => by
    obtain ⟨j, hj, rfl⟩ := List.mem_map.mp hp
    simp]
  unfold few
  rw [List.map_map]
  rfl
theorem gap_steps {k u : Int} : ∀ (N a : Nat), u ≤ ((a + N + 1 : Nat) : Int) * k → gap k (((a : Nat) : Int) * k :: ((List.range N).map (fun j => ((a + j + 1 : Nat) : Int) * k) ++ [u])) = none
  | 0, a, h => by
    have := mulk_succ k a
    show gap k [_, u] = none
    unfold gap
    rw [if_neg (by rw [Nat.add_zero] at h; omega)]
    rfl
  | N + 1, a, h => by
    have h1 := mulk_succ k a
    have ih := gap_steps N (a + 1) (by rw [show a + 1 + N + 1 = a + (N + 1) + 1 by omega]; exact h)
    have e : (List.range (N + 1)).map (fun j => ((a + j + 1 : Nat) : Int) * k) = ((a + 1 : Nat) : Int) * k :: (List.range N).map (fun j => ((a + 1 + j + 1 : Nat) : Int) * k) := by
      rw [List.range_succ_eq_map, List.map_cons, List.map_map]
      congr 1
      refine List.map_congr_left fun j _ => ?_
      show ((a + (j + 1) + 1 : Nat) : Int) * k = _
      rw [show a + (j + 1) + 1 = a + 1 + j + 1 by omega]
    rw [e, List.cons_append]
    unfold gap
    rw [if_neg (by omega)]
    exact ih
theorem few_gap {x : Bx} {u : Int} {N : Nat} (hu : u ≤ ((N + 1 : Nat) : Int) * x.k) : gapOf x (few x.k x.s N) u = none := by
  unfold gapOf
  rw [few_pick]
  have := gap_steps (k := x.k) (u := u) N 0 (by rw [Nat.zero_add]; exact hu)
  simpa using this
theorem s_shows_letters {x : Bx} (h : x.Ok) {u : Int} (u0 : 0 ≤ u) (u1 : u ≤ 200) {N : Nat} (hN : N ≤ 100) (hu : u ≤ ((N + 1 : Nat) : Int) * x.k) (hg : N = 0 ∨ ((N : Nat) : Int) * x.k < u) {T : List D} (hT : g_told_fewest [hoD [x], .int u] = some (.list T)) (hl : T.length = N) :
    g_shows_fewest_letters [hoD [x], .int u, lsD (few x.k x.s N)] = some (.bool true) := by
  have ok := few_ok h hN hg
  have ho : ∀ y ∈ [x], y.Ok := fun y hy => by rw [List.mem_singleton.mp hy]; exact h
  have e1 : g_look_at_hold [hoD [x], .int u] = some .none := s_look_hold ho (Nat.le_refl 1) (show 1 ≤ 16 by decide) u0 (show u ≤ 2000 by omega)
  have e2 : g_are_letters [lsD (few x.k x.s N), .int u] = some (.bool true) := s_are_letters ok
  obtain ⟨d, e3, h3⟩ := s_told_loss (hs := [x]) ok u0 (by omega) ho (show 1 ≤ 16 by decide)
  have hz : lost [x] (few x.k x.s N) u = [] := by
    rw [lost_one]
    unfold rowOf
    simp only
    rw [few_gap hu]
  rw [hz] at h3
  have hd : d = .none := by simpa using h3
  subst hd
  have e4 : dLen [lsD (few x.k x.s N)] = some (.int (N : Nat)) := by rw [dLen_t]; simp [few]
  have e5 : dLen [.list T] = some (.int (N : Nat)) := by rw [dLen_l, hl]
  have e3 : g_told_loss [hoD [x], lsD (few x.k x.s N), .int u] = some .none := e3
  generalize hoD [x] = HS at e1 e3 hT ⊢
  generalize lsD (few x.k x.s N) = LS at e2 e3 e4 ⊢
  simp [-Option.map_bind, g_shows_fewest_letters, b_shows_fewest_letters, B_shows_fewest_letters, e1, e2, e3, e4, e5, hT]
/-! ### the told ticks meet all spans -/
theorem apart_lc {k : Int} : ∀ (l : List Nat), (l.Pairwise fun a b : Nat => (a : Int) + k ≤ (b : Int)) → 1 ≤ k → lcF (un2 some some) (fun _ : D × D => some true) (fun p7 : (D × D) => (bin dLt (bin dIx (some p7.1) (some (.int 1))) (bin dIx (some p7.2) (some (.int 0))))) (zip2L (l.map (spD k)) ((l.map (spD k)).drop 1)) = some ((l.drop 1).map fun _ => .bool true)
  | [], _, _ => rfl
  | [_], _, _ => by simp; rfl
  | a :: b :: r, h, hk => by
    obtain ⟨h1, h2⟩ := List.pairwise_cons.mp h
    have ih := apart_lc (b :: r) h2 hk
    have hab := h1 b List.mem_cons_self
    simp only [List.map_cons, List.drop_succ_cons, List.drop_zero] at ih
    simp only [List.map_cons, List.drop_succ_cons, List.drop_zero, zip2L_cons]
    show ((un2 some some (.tuple [spD k a, spD k b])).bind _) = _
    rw [un2_s, Option.bind_some, Option.map_some, Option.bind_some, Option.bind_some, if_pos rfl]
    have e : (bin dLt (bin dIx (some (spD k a)) (some (.int 1))) (bin dIx (some (spD k b)) (some (.int 0)))) = some (.bool true) := by
      simp [spD]
      omega
    rw [show (fun p7 : (D × D) => (bin dLt (bin dIx (some p7.1) (some (.int 1))) (bin dIx (some p7.2) (some (.int 0))))) (spD k a, spD k b) = some (.bool true) from e, Option.bind_some, ih]
    rfl
theorem div_at {k : Int} (hk : 1 ≤ k) {i : Nat} : ∀ N : Nat, (i : Int) < (N : Nat) * k → ∃ j, j < N ∧ ((j : Nat) : Int) * k ≤ i ∧ (i : Int) < ((j + 1 : Nat) : Int) * k
  | 0, h => by simp at h; omega
  | N + 1, h => by
    by_cases q : (i : Int) < (N : Nat) * k
    · obtain ⟨j, h1, h2⟩ := div_at hk N q
      exact ⟨j, by omega, h2⟩
    · exact ⟨N, by omega, by omega, h⟩
theorem s_shows_numbers {k : Int} {m c : Nat} (h : Spn k m) (I : CkI k m c) (hc0 : 1 ≤ c) : g_shows_fewest_numbers [spsD k m, .tuple [.tuple ((ptL k c).map .int), .tuple ((loL k c).map .int)]] = some (.bool true) := by
  have e1 := s_look_spans h
  obtain ⟨k0, k1, m0, m1⟩ := h
  have hcm := I.le
  have hlo := I.lo
  have hhi : ((c : Nat) : Int) * k < (m : Nat) + k := by rcases I.hi with q | q <;> omega
  have e2 := s_intsG (lo := -BIG) (hi := BIG) (ptL k c) (fun x hx => by
    unfold ptL at hx
    obtain ⟨j, hj, rfl⟩ := List.mem_map.mp hx
    have hj := List.mem_range.mp hj
    have := mulk_small (a := j + 1) k0 k1 (by omega)
    have hB : BIG = 1000000000000 := rfl
    omega) (by rw [ptL_len]; omega)
  have lom : ∀ x ∈ loL k c, 0 ≤ x ∧ x ≤ (m : Nat) - 1 := fun x hx => by
    unfold loL at hx
    obtain ⟨j, hj, rfl⟩ := List.mem_map.mp hx
    have hj := List.mem_range.mp hj
    have q1 := mulk_small (a := j) k0 k1 (by omega)
    have q2 := (mulk_le (k := k) (a := j + 1) (b := c) k0).mpr (by omega)
    have q3 := mulk_succ k j
    omega
  have e3 := s_intsG (lo := 0) (hi := (m : Nat) - 1) (loL k c) lom (by rw [loL_len]; omega)
  have e4 : dLSet (.tuple ((loL k c).map .int)) = some (.int (c : Nat)) := by
    unfold dLSet
    rw [seqD_t, Option.bind_some, ints_map, Option.bind_some, setI_up (loL_up k0 c), loL_len, if_pos (by omega)]
  -- the spans at the lone ones
  have hat : ∃ ats : List Nat, (loL k c) = ats.map (fun a => ((a : Nat) : Int)) ∧ (∀ a ∈ ats, a < m) ∧ (ats.Pairwise fun a b : Nat => (a : Int) + k ≤ (b : Int)) ∧ ats.length = c := by
    refine ⟨(List.range c).map fun j => (((j : Nat) : Int) * k).toNat, ?_, fun a ha => ?_, ?_, by simp⟩
    · unfold loL
      rw [List.map_map]
      refine List.map_congr_left fun j hj => ?_
      have hj := List.mem_range.mp hj
      have q1 := mulk_small (a := j) k0 k1 (by omega)
      show _ = (((((j : Nat) : Int) * k).toNat : Nat) : Int)
      omega
    · obtain ⟨j, hj, rfl⟩ := List.mem_map.mp ha
      have := lom (((j : Nat) : Int) * k) (List.mem_map.mpr ⟨j, hj, rfl⟩)
      omega
    · rw [List.pairwise_map]
      refine (range_up c).imp fun {a b} hab => ?_
      have q1 := mulk_succ k a
      have q2 := (mulk_le (k := k) (a := a + 1) (b := b) k0).mpr (by omega)
      have q3 : 0 ≤ ((a : Nat) : Int) * k := Int.mul_nonneg (by omega) (by omega)
      omega
  obtain ⟨ats, a1, a2, a3, a4⟩ := hat
  have e5 := lcF_all (pm := some) (me := fun p5 : D => (bin dIx (some (spsD k m)) (some p5))) (fun a : Nat => .int (a : Nat)) (fun a => spD k a) ats fun a ha => ⟨_, rfl, by
    rw [bin_s, ix_t (ds := (List.range m).map (spD k)) (k := a) (by simp; exact a2 a ha)]
    simp⟩
  have eLo : (loL k c).map PyData.int = ats.map fun a : Nat => .int (a : Nat) := by rw [a1, List.map_map]; rfl
  rw [← eLo] at e5
  have e6 : lenOk (some (ats.map fun a => spD k a)) = some (ats.map fun a => spD k a) := lenOk_s (by rw [List.length_map]; omega)
  have e7 : dSorted [.list (ats.map fun a => spD k a)] = some (ats.map fun a => spD k a) :=
    sorted_rows (fun i : Nat => [1 + ((i : Nat) : Int), 1 + (i : Nat) + k - 1]) (fun a _ => List.cons_ne_nil _ _) (a3.imp fun h => lt_cons (by omega)) (by omega) _ rfl
  have e8 := apart_lc ats a3 k0
  have e9 : lenOk (some ((ats.drop 1).map fun _ => PyData.bool true)) = some ((ats.drop 1).map fun _ => PyData.bool true) := lenOk_s (by rw [List.length_map, List.length_drop]; omega)
  have e10 := dAll_map (fun _ : Nat => true) (ats.drop 1)
  rw [show (ats.drop 1).all (fun _ => true) = true by simp] at e10
  -- all spans are met
  have ex : ∀ i : Nat, i < m → ∃ L : List Bool, lcF some (fun _ : D => some true) (fun p9 : D => (chainO dLe dLe (bin dIx (some (spD k i)) (some (.int 0))) (some p9) (bin dIx (some (spD k i)) (some (.int 1))))) ((ptL k c).map .int) = some (L.map .bool) ∧ L.any id = true ∧ L.length ≤ 1000 := fun i hi => by
    refine ⟨(ptL k c).map fun p => decide (1 + (i : Int) ≤ p) && decide (p ≤ 1 + (i : Int) + k - 1), ?_, ?_, by rw [List.length_map, ptL_len]; omega⟩
    · rw [lcF_all (fun p : Int => .int p) (fun p : Int => PyData.bool (decide (1 + (i : Int) ≤ p) && decide (p ≤ 1 + (i : Int) + k - 1))) (ptL k c) fun p hp => ⟨_, rfl, by
        by_cases q : 1 + (i : Int) ≤ p <;> simp [spD, chainO, q]⟩]
      rw [List.map_map]
      rfl
    · obtain ⟨j, h1, h2, h3⟩ := div_at k0 (i := i) c (by omega)
      have q3 := mulk_succ k j
      rw [List.any_eq_true]
      refine ⟨_, List.mem_map.mpr ⟨((j + 1 : Nat) : Int) * k, List.mem_map.mpr ⟨j, List.mem_range.mpr h1, rfl⟩, rfl⟩, ?_⟩
      show (decide _ && decide _) = true
      rw [Bool.and_eq_true, decide_eq_true_eq, decide_eq_true_eq]
      omega
  have e11 := lcF_all (pm := some) (me := fun p8 : D => ((lenOk (lcF some (fun _ : D => some true) (fun p9 : D => (chainO dLe dLe (bin dIx (some p8) (some (.int 0))) (some p9) (bin dIx (some p8) (some (.int 1))))) ((ptL k c).map .int))).map PyData.list).bind fun z => dAny [z]) (spD k) (fun _ => PyData.bool true) (List.range m) fun i hi => ⟨_, rfl, by
    obtain ⟨L, h1, h2, h3⟩ := ex i (List.mem_range.mp hi)
    have q := dAny_map (fun b : Bool => b) L
    rw [h1, lenOk_s (by rw [List.length_map]; omega), Option.map_some, Option.bind_some]
    rw [q]
    rw [show L.any (fun b => b) = true from h2]⟩
  have e12 : lenOk (some ((List.range m).map fun _ => PyData.bool true)) = some ((List.range m).map fun _ => PyData.bool true) := lenOk_s (by simp; omega)
  have e13 := dAll_map (fun _ : Nat => true) (List.range m)
  rw [show (List.range m).all (fun _ => true) = true by simp] at e13
  have lp : dLen [.tuple ((ptL k c).map .int)] = some (.int (c : Nat)) := by rw [dLen_t, List.length_map, ptL_len]
  have ll : dLen [.tuple ((loL k c).map .int)] = some (.int (c : Nat)) := by rw [dLen_t, List.length_map, loL_len]
  have ls : dLen [spsD k m] = some (.int (m : Nat)) := by rw [dLen_t]; simp
  have cb : ∀ (m : Option D), consO m (some []) = m.map fun z => [z] := fun m => by cases m <;> rfl
  have hi : iterS (spsD k m) = some ((List.range m).map (spD k)) := rfl
  have il : iterS (.tuple ((loL k c).map .int)) = some ((loL k c).map .int) := rfl
  have ip : iterS (.tuple ((ptL k c).map .int)) = some ((ptL k c).map .int) := rfl
  have e2' : g_are_ints [.tuple ((ptL k c).map .int), .int (-1000000000000), .int 1000000000000] = some (.bool true) := e2
  have fe : (fun p8 : D => (consO (Option.map PyData.list (lenOk (lcF some (fun p9 : D => some true) (fun p9 : D => chainO dLe dLe (bin dIx (some p8) (some (.int 0))) (some p9) (bin dIx (some p8) (some (.int 1)))) ((ptL k c).map .int)))) (some [])).bind dAny) = (fun p8 : D => ((lenOk (lcF some (fun _ : D => some true) (fun p9 : D => (chainO dLe dLe (bin dIx (some p8) (some (.int 0))) (some p9) (bin dIx (some p8) (some (.int 1))))) ((ptL k c).map .int))).map PyData.list).bind fun z => dAny [z]) := funext fun p8 => by
    rw [cb]
    generalize (Option.map PyData.list (lenOk (lcF some (fun p9 : D => some true) (fun p9 : D => chainO dLe dLe (bin dIx (some p8) (some (.int 0))) (some p9) (bin dIx (some p8) (some (.int 1)))) ((ptL k c).map .int)))) = M
    cases M <;> rfl
  rw [← fe] at e11
  have tt : ∀ z : List D, dIsi "tuple" (.tuple z) = some (.bool true) := fun _ => rfl
  have l2 : dLen [.tuple [PyData.tuple ((ptL k c).map .int), .tuple ((loL k c).map .int)]] = some (.int 2) := rfl
  have i0 : dIx (.tuple [PyData.tuple ((ptL k c).map .int), .tuple ((loL k c).map .int)]) (.int 0) = some (.tuple ((ptL k c).map .int)) := by simp
  have u2 : un2 some some (.tuple [PyData.tuple ((ptL k c).map .int), .tuple ((loL k c).map .int)]) = some (PyData.tuple ((ptL k c).map .int), .tuple ((loL k c).map .int)) := by simp
  have tp : dIsi "tuple" (.tuple [PyData.tuple ((ptL k c).map .int), .tuple ((loL k c).map .int)]) = some (.bool true) := rfl
  generalize (PyData.tuple [PyData.tuple ((ptL k c).map .int), .tuple ((loL k c).map .int)]) = V at l2 i0 u2 tp ⊢
  generalize ((loL k c).map PyData.int) = LO at *
  generalize ((ptL k c).map PyData.int) = PT at *
  generalize ((ats.map fun a => spD k a)) = SA at *
  generalize spsD k m = SP at *
  generalize ((ats.drop 1).map fun _ => PyData.bool true) = R1 at *
  unfold g_shows_fewest_numbers
  simp only [b_shows_fewest_numbers]
  unfold B_shows_fewest_numbers
  simp only [bin_s] at e5 e8 e11
  simp only [consO_s, Option.bind_some, e1, tp, l2, i0, u2, e2', isB_s, Option.map_some, Bool.not_true, orT_f, bin_s, dNe_ii, decide_true, iteO_f, dNeg_i, ls, dSub_ii, e3, e4, ll, lp, iterS_t, e5, e6, e7, iterS_l, dSl_l, slO_s, isI_s, cut_from1, dZip2_ll, e8, e9, e10, hi, e11, e12, e13, finP_rt]
end DL

set_option Elab.async false
set_option linter.all false
set_option maxRecDepth 100000
set_option maxHeartbeats 4000000
set_option autoImplicit false
namespace DL
open PySem PySem.Spec PyProof.Rows L2 K75
/-! ### letters and numbers alike -/
theorem how_many {k u : Int} (hk : 1 ≤ k) (u1 : u ≤ 100) : ∃ N : Nat, N ≤ 100 ∧ u ≤ ((N + 1 : Nat) : Int) * k ∧ (N = 0 ∨ ((N : Nat) : Int) * k < u) := by
  have go : ∀ j : Nat, (∃ N : Nat, N ≤ j ∧ u ≤ ((N + 1 : Nat) : Int) * k ∧ (N = 0 ∨ ((N : Nat) : Int) * k < u)) ∨ ((j + 1 : Nat) : Int) * k < u := fun j => by
    induction j with
    | zero =>
      by_cases h : u ≤ ((0 + 1 : Nat) : Int) * k
      · exact .inl ⟨0, Nat.le_refl _, h, .inl rfl⟩
      · exact .inr (by omega)
    | succ j ih =>
      rcases ih with ⟨N, h1, h2⟩ | ih
      · exact .inl ⟨N, by omega, h2⟩
      · by_cases h : u ≤ ((j + 1 + 1 : Nat) : Int) * k
        · exact .inl ⟨j + 1, Nat.le_refl _, h, .inr ih⟩
        · exact .inr (by omega)
  rcases go 100 with h | h
  · exact h
  · have := (mulk_le (k := k) (a := 0) (b := 0) hk)
    have q : ((100 + 1 : Nat) : Int) * 1 ≤ ((100 + 1 : Nat) : Int) * k := Int.mul_le_mul_of_nonneg_left hk (by decide)
    omega
theorem s_fewest {x : Bx} (h : x.Ok) {u : Int} (u0 : 0 ≤ u) (u1 : u ≤ 100) {T : List D} (hT : g_told_fewest [hoD [x], .int u] = some (.list T)) : g_fewest_letters [hoD [x], .int u] = some (.tuple T) := by
  have ho : ∀ y ∈ [x], y.Ok := fun y hy => by rw [List.mem_singleton.mp hy]; exact h
  have e1 : g_look_at_hold [hoD [x], .int u] = some .none := s_look_hold ho (Nat.le_refl 1) (show 1 ≤ 16 by decide) u0 (show u ≤ 2000 by omega)
  generalize hoD [x] = HS at e1 hT ⊢
  simp [g_fewest_letters, b_fewest_letters, B_fewest_letters, e1, hT]
theorem s_few_right {x : Bx} (h : x.Ok) {u : Int} (u0 : 0 ≤ u) (u1 : u ≤ 100) : g__law_is_few_right [.int x.s, .int x.k, .bool x.b, .int u] = some (.bool true) := by
  have k0 := h.k0
  have k1 := h.k1
  obtain ⟨N, hN, hu, hg⟩ := how_many k0 u1
  obtain ⟨ls, F, hT⟩ := s_told h hN hu hg
  have e1 := s_fewest h u0 u1 hT
  have hlen : ls.length = N := by
    have := congrArg List.length F.ticks
    simpa using this
  have l1 : ∀ p : D, lenOk (some [p]) = some [p] := fun _ => rfl
  have l2 : ∀ p q : D, lenOk (some [p, q]) = some [p, q] := fun _ _ => rfl
  have l3 : ∀ p q r : D, lenOk (some [p, q, r]) = some [p, q, r] := fun _ _ _ => rfl
  have l0 : lenOk (some ([] : List D)) = some [] := rfl
  have eh : (PyData.tuple [PyData.tuple [.int x.s, .int x.k, .bool x.b]]) = hoD [x] := rfl
  have ok2 : rOk 1 = true ∧ rOk (u - x.k + 1) = true := ⟨cl_iff.mpr (by decide), cl_iff.mpr (by omega)⟩
  have er : dR2 (.int 1) (.int (u - x.k + 1)) = some ((List.range (u - x.k).toNat).map fun i : Nat => .int (1 + (i : Nat))) := by
    refine (if_pos (Bool.and_eq_true_iff.mpr ok2)).trans ?_
    unfold rangeL
    rw [show (u - x.k + 1 - 1).toNat = (u - x.k).toNat by omega]
  have es := lcF_all (pm := some) (me := fun p3 : D => ((lenOk (consO (some p3) (consO (bin dSub (bin dPlus (some p3) (some (.int x.k))) (some (.int 1))) (some [])))).map .tuple)) (fun i : Nat => .int (1 + (i : Nat))) (spD x.k) (List.range (u - x.k).toNat) fun i hi => ⟨_, rfl, by simp [l2, spD]⟩
  have el : lenOk (some ((List.range (u - x.k).toNat).map (spD x.k))) = some ((List.range (u - x.k).toNat).map (spD x.k)) := lenOk_s (by simp; omega)
  have e00 : dEq (.tuple []) (.tuple []) = some (.bool true) := rfl
  simp only [bin_s, dPlus_ii, dSub_ii] at es
  by_cases hc : u ≤ x.k
  · have hm : (u - x.k).toNat = 0 := by omega
    have hN0 : N = 0 := by
      rcases hg with hg | hg
      · exact hg
      · have := (mulk_lt (k := x.k) (a := N) (b := 1) k0).mp (by omega)
        omega
    have hls : ls = [] := List.eq_nil_of_length_eq_zero (by omega)
    rw [hls] at e1
    rw [hm] at es el er
    simp only [List.range_zero, List.map_nil] at es el er e1
    unfold g__law_is_few_right
    simp only [b__law_is_few_right]
    unfold B__law_is_few_right
    simp only [consO_s, l3, Option.map_some, l1, Option.bind_some, bin_s, dSub_ii, dPlus_ii, er, es, l0, dTuple_l, eh, e1, e00, isB_s, iteO_t, cast_rt, finP_rt]
  · have S : Spn x.k (u - x.k).toNat := ⟨k0, by omega, by omega, by omega⟩
    obtain ⟨c, I, e2⟩ := s_points S
    have hlo := I.lo
    have hc0 : 1 ≤ c := by
      rcases Nat.eq_zero_or_pos c with q | q
      · subst q
        simp at hlo
        omega
      · exact q
    have hhi : ((c : Nat) : Int) * x.k < ((u - x.k).toNat : Nat) + x.k := by rcases I.hi with q | q <;> omega
    have hcN : c = N := by
      have hNk : ((N : Nat) : Int) * x.k < u := by
        rcases hg with hg | hg
        · subst hg
          have := mulk_succ x.k 0
          simp at hu
          omega
        · exact hg
      have q1 := mulk_succ x.k c
      have a1 := (mulk_lt (k := x.k) (a := c) (b := N + 1) k0).mp (by omega)
      have a2 := (mulk_lt (k := x.k) (a := N) (b := c + 1) k0).mp (by omega)
      omega
    subst hcN
    have e3 := s_shows_letters h u0 (by omega) hN hu hg hT (by rw [List.length_map, hlen])
    have e4 := s_shows_numbers S I hc0
    have n0 : dEq (spsD x.k (u - x.k).toNat) (.tuple []) = some (.bool false) := by
      have nn : nice (spsD x.k (u - x.k).toNat) = true := niceAll_iff.mpr fun d hd => by
        obtain ⟨i, hi, rfl⟩ := List.mem_map.mp hd
        have hi := List.mem_range.mp hi
        exact nice_ints (xs := [1 + (i : Nat), 1 + (i : Nat) + x.k - 1]) fun z hz => by
          simp only [List.mem_cons, List.not_mem_nil, or_false] at hz
          rcases hz with rfl | rfl <;> omega
      have dd : PyData.depth (spsD x.k (u - x.k).toNat) ≤ 64 := by
        have e : (List.range (u - x.k).toNat).map (spD x.k) = ((List.range (u - x.k).toNat).map fun i : Nat => [1 + ((i : Nat) : Int), 1 + (i : Nat) + x.k - 1]).map tIs := by rw [List.map_map]; rfl
        show PyData.depthAll _ + 1 ≤ 64
        rw [e]
        have := depth_rows ((List.range (u - x.k).toNat).map fun i : Nat => [1 + ((i : Nat) : Int), 1 + (i : Nat) + x.k - 1])
        omega
      rw [dEq_nice nn (show nice (.tuple []) = true from rfl) dd (by decide)]
      obtain ⟨m, hm⟩ : ∃ m, (u - x.k).toNat = m + 1 := ⟨(u - x.k).toNat - 1, by omega⟩
      rw [hm]
      show some (PyData.bool (PyData.eqv (.tuple ((List.range (m + 1)).map (spD x.k))) (.tuple []))) = _
      rw [List.range_succ_eq_map]
      rfl
    have e5 := lcF_all (pm := some) (me := fun p9 : D => ((lenOk (consO (some p9) (consO (some (.int x.s)) (some [])))).map .tuple)) (fun p : Int => .int p) (fun p : Int => (.tuple [.int p, .int x.s] : D)) (ptL x.k c) fun p hp => ⟨_, rfl, rfl⟩
    have ef : ((ptL x.k c).map fun p : Int => (.tuple [.int p, .int x.s] : D)) = (few x.k x.s c).map leD := by
      unfold ptL few
      rw [List.map_map, List.map_map]
      rfl
    rw [ef] at e5
    have fl : (few x.k x.s c).length = c := by simp [few]
    have e6 : lenOk (some ((few x.k x.s c).map leD)) = some ((few x.k x.s c).map leD) := lenOk_s (by rw [List.length_map, fl]; omega)
    have e7 : dSorted [.list ((few x.k x.s c).map leD)] = some ((few x.k x.s c).map leD) :=
      sorted_rows (fun p : Int × Int => [p.1, p.2]) (fun a _ => List.cons_ne_nil _ _) ((few_ok h hN hg).up.imp fun h => lt_cons h) (by rw [fl]; omega) _ rfl
    have e8 := lcF_all (pm := un2 some some) (me := fun p11 : (D × D) => (some p11.1)) (lD x.k) (fun p : Nat × Nat => .int ((p.1 : Nat) * x.k)) ls fun p hp => ⟨(.int ((p.1 : Nat) * x.k), .int (p.2 : Nat)), rfl, rfl⟩
    have et : (ls.map fun p : Nat × Nat => (.int ((p.1 : Nat) * x.k) : D)) = (ptL x.k c).map .int := by
      have e : (ls.map fun p : Nat × Nat => (.int ((p.1 : Nat) * x.k) : D)) = (ls.map (·.1)).map fun a : Nat => (.int ((a : Nat) * x.k) : D) := by rw [List.map_map]; rfl
      rw [e, F.ticks]
      unfold ptL
      rw [List.map_map, List.map_map]
      rfl
    rw [et] at e8
    have e9 : lenOk (some ((ptL x.k c).map PyData.int)) = some ((ptL x.k c).map PyData.int) := lenOk_s (by rw [List.length_map, ptL_len]; omega)
    have lp : dLen [.tuple ((ptL x.k c).map .int)] = some (.int (c : Nat)) := by rw [dLen_t, List.length_map, ptL_len]
    have lt : dLen [.tuple (ls.map (lD x.k))] = some (.int (c : Nat)) := by rw [dLen_t, List.length_map, hlen]
    have esp : (PyData.tuple ((List.range (u - x.k).toNat).map (spD x.k))) = spsD x.k (u - x.k).toNat := rfl
    generalize hA : (List.range (u - x.k).toNat).map (spD x.k) = A at es el esp
    generalize spsD x.k (u - x.k).toNat = SP at *
    generalize (ls.map (lD x.k)) = LS at *
    generalize ((ptL x.k c).map PyData.int) = PT at *
    generalize ((loL x.k c).map PyData.int) = LO at *
    have el8 : (PyData.tuple ((few x.k x.s c).map leD)) = lsD (few x.k x.s c) := rfl
    generalize lsD (few x.k x.s c) = FW at e3 el8
    generalize ((few x.k x.s c).map leD) = FL at *
    simp only [consO_s, l2, Option.map_some] at e5
    unfold g__law_is_few_right
    simp only [b__law_is_few_right]
    unfold B__law_is_few_right
    simp only [consO_s, l3, Option.map_some, l1, Option.bind_some, bin_s, dSub_ii, dPlus_ii, er, es, el, esp, l0, dTuple_l, eh, e1, n0, isB_s, iteO_f, e2, un2_s, lp, lt, dNe_ii, decide_true, Bool.not_true, iterS_t, l2, e5, e6, e7, el8, e3, dIsNot_bb, e8, e9, e4, dIs_bb, finP_rt]
end DL

set_option Elab.async false
set_option linter.all false
set_option maxRecDepth 100000
set_option maxHeartbeats 4000000
set_option autoImplicit false
namespace DL
open PySem PySem.Spec PyProof.Rows L2 K75
/-! ### what is drawn -/
structure HoI (k : Nat) (ps : List D) (hold : List D) (n : Nat) : Prop where
  pot : Pot k ps
  ex : ∃ hs : List Bx, hold = hs.map bxD ∧ (∀ x ∈ hs, x.s = 0 ∨ x.s = 1) ∧ (∀ x ∈ hs, 1 ≤ x.k ∧ x.k ≤ 30) ∧ hs.length = n
theorem of_ints {k : Nat} {ps : List D} {xs : List Int} (hp : Pot k ps) (hk : k < 2 ^ 60) (h1 : 1 ≤ xs.length) (h2 : xs.length ≤ 1000) : ∃ v ps', g__law_of ps [.tuple (xs.map .int)] = some (.int v, ps') ∧ v ∈ xs ∧ Pot (k + 1) ps' := by
  obtain ⟨i, hi, ps', e, hp'⟩ := of_ok (xs := xs.map .int) hp hk (by rw [List.length_map]; exact h1) (by rw [List.length_map]; omega)
  have hi' : i < xs.length := by rwa [List.length_map] at hi
  refine ⟨xs[i], ps', ?_, List.getElem_mem hi', hp'⟩
  rw [e, List.getElem_map]
theorem of_box {k : Nat} {ps : List D} {hs : List Bx} (hp : Pot k ps) (hk : k < 2 ^ 60) (h1 : 1 ≤ hs.length) (h2 : hs.length ≤ 1000) : ∃ x ∈ hs, ∃ ps', g__law_of ps [hoD hs] = some (.tuple [.int x.s, .int x.k, .bool x.b], ps') ∧ Pot (k + 1) ps' := by
  obtain ⟨i, hi, ps', e, hp'⟩ := of_ok (xs := hs.map bxD) hp hk (by rw [List.length_map]; exact h1) (by rw [List.length_map]; omega)
  have hi' : i < hs.length := by rwa [List.length_map] at hi
  refine ⟨hs[i], List.getElem_mem hi', ps', ?_, hp'⟩
  rw [List.getElem_map] at e
  exact e
theorem s_box_drawn {k n : Nat} {ps hold : List D} (I : HoI k ps hold n) (hk : k < 10000) (hn : n ≤ 100) (d : D) : ∃ l', L1__law_right (ps, hold) d = some (.nx l') ∧ HoI (k + 4) l'.1 l'.2 (n + 1) := by
  obtain ⟨d1, p1, e1, a1, b1, hp1⟩ := take_ok (u := 2) I.pot (by omega) (by decide) (by decide)
  obtain ⟨v, p2, e2, hv, hp2⟩ := of_ints (xs := [4, 30]) hp1 (by omega) (by decide) (by decide)
  have hv' : v = 4 ∨ v = 30 := by simpa using hv
  obtain ⟨d2, p3, e3, a3, b3, hp3⟩ := take_ok (u := v) hp2 (by omega) (by omega) (by omega)
  obtain ⟨d3, p4, e4, a4, b4, hp4⟩ := take_ok (u := 2) hp3 (by omega) (by decide) (by decide)
  obtain ⟨hs, rfl, h1, h2, h3⟩ := I.ex
  have l2 : ∀ p q : D, lenOk (some [p, q]) = some [p, q] := fun _ _ => rfl
  have a := appD_s (ds := hs.map bxD) (d := bxD ⟨d1, 1 + d2, decide (d3 = 0)⟩) (by rw [List.length_map]; omega)
  have e2' : g__law_of p1 [.tuple [.int 4, .int 30]] = some (.int v, p2) := e2
  refine ⟨(p4, hs.map bxD ++ [bxD ⟨d1, 1 + d2, decide (d3 = 0)⟩]), ?_, ⟨hp4.up (by omega), hs ++ [⟨d1, 1 + d2, decide (d3 = 0)⟩], by simp, fun x hx => ?_, fun x hx => ?_, by simp [h3]⟩⟩
  · simp only [bxD] at a
    simp [L1__law_right, e1, e2', e3, e4, l2, bxD, a]
  · rcases List.mem_append.mp hx with hx | hx
    · exact h1 x hx
    · rw [List.mem_singleton.mp hx]
      simp only
      omega
  · rcases List.mem_append.mp hx with hx | hx
    · exact h2 x hx
    · rw [List.mem_singleton.mp hx]
      simp only
      omega
structure LeI (u : Int) (k : Nat) (ps found : List D) (tick : D) (n : Nat) : Prop where
  pot : Pot k ps
  ex : ∃ (ls : List (Int × Int)) (t : Int), found = ls.map leD ∧ tick = .int t ∧ 0 ≤ t ∧ (ls.Pairwise fun p q => p.1 < q.1) ∧ (∀ p ∈ ls, 1 ≤ p.1 ∧ p.1 ≤ u ∧ p.1 ≤ t ∧ 0 ≤ p.2 ∧ p.2 ≤ 1) ∧ ls.length ≤ n
theorem s_letter_drawn {u : Int} {k n : Nat} {ps found : List D} {tick : D} {hs : List Bx} (I : LeI u k ps found tick n) (ho : ∀ x ∈ hs, x.Ok) (h1 : 1 ≤ hs.length) (h2 : hs.length ≤ 16) (hk : k < 10000) (hn : n ≤ 100) (d : D) :
    ∃ l', L1__law_letters (hoD hs) (.int u) (ps, found, tick) d = some (.nx l') ∧ LeI u (k + 4) l'.1 l'.2.1 l'.2.2 (n + 1) := by
  obtain ⟨x, hm, p1, e1', hp1⟩ := of_box (hs := hs) I.pot (by omega) h1 (by omega)
  have hx := ho x hm
  have k0 := hx.k0
  have k1 := hx.k1
  obtain ⟨v, p2, e2, hv, hp2⟩ := of_ints (xs := [1, x.k / 2, x.k, x.k + 1]) hp1 (by omega) (show 1 ≤ 4 by decide) (show 4 ≤ 1000 by decide)
  obtain ⟨ls, t, rfl, rfl, t0, up, hl, hlen⟩ := I.ex
  have l4 : ∀ p q r s : D, lenOk (some [p, q, r, s]) = some [p, q, r, s] := fun _ _ _ _ => rfl
  have l2 : ∀ p q : D, lenOk (some [p, q]) = some [p, q] := fun _ _ => rfl
  have fd : dFdiv (.int x.k) (.int 2) = some (.int (x.k / 2)) := bdiv (by decide) (Bd.of (p := 60) (by decide) (by decide))
  have e2' : g__law_of p1 [.tuple [.int 1, .int (x.k / 2), .int x.k, .int (x.k + 1)]] = some (.int v, p2) := e2
  have ht : t + max 1 v ≥ t + 1 := by omega
  generalize hT : t + max 1 v = t' at ht
  by_cases hle : t' ≤ u
  · obtain ⟨d3, p3, e3, a3, b3, hp3⟩ := take_ok (u := 3) hp2 (by omega) (by decide) (by decide)
    have fin : ∀ (p4 : List D) (s : Int), Pot (k + 4) p4 → 0 ≤ s → s ≤ 1 → LeI u (k + 4) p4 ((ls ++ [(t', s)]).map leD) (.int t') (n + 1) := fun p4 s hp s0 s1 => ⟨hp, ls ++ [(t', s)], t', rfl, rfl, by omega, by
      rw [List.pairwise_append]
      refine ⟨up, List.pairwise_singleton _ _, fun a ha b hb => ?_⟩
      rw [List.mem_singleton.mp hb]
      have := hl a ha
      show a.1 < t'
      omega, fun p hp => by
      rcases List.mem_append.mp hp with hp | hp
      · have := hl p hp
        omega
      · rw [List.mem_singleton.mp hp]
        simp only
        omega, by rw [List.length_append]; simp; omega⟩
    by_cases h3 : d3 = 0
    · obtain ⟨d4, p4, e4, a4, b4, hp4⟩ := take_ok (u := 2) hp3 (by omega) (by decide) (by decide)
      have a := appD_s (ds := ls.map leD) (d := leD (t', d4)) (by rw [List.length_map]; omega)
      refine ⟨(p4, (ls ++ [(t', d4)]).map leD, .int t'), ?_, fin p4 d4 (hp4.up (by omega)) a4 (by omega)⟩
      simp only [leD] at a
      generalize hoD hs = HS at e1'
      simp [L1__law_letters, e1', e2', e3, e4, l2, l4, fd, hT, hle, h3, a, leD]
    · have a := appD_s (ds := ls.map leD) (d := leD (t', x.s)) (by rw [List.length_map]; omega)
      have s0 := hx.s0
      have s1 := hx.s1
      refine ⟨(p3, (ls ++ [(t', x.s)]).map leD, .int t'), ?_, fin p3 x.s (hp3.up (by omega)) s0 s1⟩
      simp only [leD] at a
      generalize hoD hs = HS at e1'
      simp [L1__law_letters, e1', e2', e3, l2, l4, fd, hT, hle, h3, a, leD]
  · refine ⟨(p2, ls.map leD, .int t'), ?_, ⟨hp2.up (by omega), ls, t', rfl, rfl, by omega, up, fun p hp => ?_, by omega⟩⟩
    · generalize hoD hs = HS at e1'
      simp [L1__law_letters, e1', e2', l2, l4, fd, hT, hle]
    · have := hl p hp
      omega
theorem s_letters {u : Int} {k : Nat} {ps : List D} {hs : List Bx} (hp : Pot k ps) (hk : k ≤ 100) (ho : ∀ x ∈ hs, x.Ok) (h1 : 1 ≤ hs.length) (h2 : hs.length ≤ 16) :
    ∃ ls ps', g__law_letters ps [hoD hs, .int u] = some (lsD ls, ps') ∧ OkL u ls ∧ ls.length ≤ 30 ∧ Pot (k + 200) ps' := by
  obtain ⟨d1, p1, e1, a1, b1, hp1⟩ := take_ok (u := 26) hp (by omega) (by decide) (by decide)
  obtain ⟨n, rfl⟩ := Int.eq_ofNat_of_zero_le a1
  have er : dR1 (.int (n : Nat)) = some ((List.range n).map fun i => .int (i : Nat)) := range_0 (by omega)
  obtain ⟨l', e2, I⟩ := forF_rel (f := fun l x => (some x).bind (L1__law_letters (hoD hs) (.int u) l)) (fun i l => LeI u (k + 1 + 4 * i) l.1 l.2.1 l.2.2 i) ((List.range n).map fun i => .int (i : Nat)) (p1, [], .int 0) 0 ⟨hp1, [], 0, rfl, rfl, Int.le_refl _, List.Pairwise.nil, fun p h => (by cases h), Nat.le_refl _⟩ fun i x l hi hl => by
    have hi' : i < n := by
      have := (List.getElem?_eq_some_iff.mp hi).1
      simpa using this
    obtain ⟨l', q1, q2⟩ := s_letter_drawn (ps := l.1) (found := l.2.1) (tick := l.2.2) hl ho h1 h2 (by omega) (by omega) x
    refine ⟨l', q1, ?_⟩
    rw [show k + 1 + 4 * (0 + i + 1) = k + 1 + 4 * (0 + i) + 4 by omega]
    exact q2
  rw [List.length_map, List.length_range, Nat.zero_add] at I
  obtain ⟨ls, t, q1, q2, q3, q4, q5, q6⟩ := I.ex
  have l0 : lenOk (some ([] : List D)) = some [] := rfl
  refine ⟨ls, l'.1, ?_, ⟨q4, fun p hp => (q5 p hp).1, fun p hp => (q5 p hp).2.1, fun p hp => (q5 p hp).2.2.2.1, fun p hp => (q5 p hp).2.2.2.2, by omega⟩, by omega, I.pot.up (by omega)⟩
  generalize hoD hs = HS at e2
  simp only [Option.bind_some] at e2
  simp [g__law_letters, b__law_letters, B__law_letters, l0, e1, er, e2, q1]
theorem right_ok {ps : List D} (hp : Pot 0 ps) : ∃ ps', g__law_right ps [] = some (.bool true, ps') := by
  obtain ⟨v, p1, e1, hv, hp1⟩ := of_ints (xs := [12, 101]) hp (by decide) (by decide) (by decide)
  have hv' : v = 12 ∨ v = 101 := by simpa using hv
  have e1' : g__law_of ps [.tuple [.int 12, .int 101]] = some (.int v, p1) := e1
  obtain ⟨u, p2, e2, u0, u1, hp2⟩ := take_ok (u := v) hp1 (by decide) (by omega) (by omega)
  obtain ⟨d, p3, e3, a3, b3, hp3⟩ := take_ok (u := 6) hp2 (by decide) (by decide) (by decide)
  obtain ⟨m, rfl⟩ := Int.eq_ofNat_of_zero_le a3
  have er : dR1 (.int (1 + (m : Nat))) = some ((List.range (1 + m)).map fun i => .int (i : Nat)) := by
    have := range_0 (n := 1 + m) (by omega)
    rw [← this]
    congr 2
  obtain ⟨l', e4, I⟩ := forF_rel (f := fun l x => (some x).bind (L1__law_right l)) (fun i l => HoI (3 + 4 * i) l.1 l.2 i) ((List.range (1 + m)).map fun i => .int (i : Nat)) (p3, []) 0 ⟨hp3, [], rfl, fun x h => (by cases h), fun x h => (by cases h), rfl⟩ fun i x l hi hl => by
    have hi' : i < 1 + m := by
      have := (List.getElem?_eq_some_iff.mp hi).1
      simpa using this
    obtain ⟨l', q1, q2⟩ := s_box_drawn (ps := l.1) (hold := l.2) hl (by omega) (by omega) x
    refine ⟨l', q1, ?_⟩
    rw [show 3 + 4 * (0 + i + 1) = 3 + 4 * (0 + i) + 4 by omega]
    exact q2
  rw [List.length_map, List.length_range, Nat.zero_add] at I
  obtain ⟨hs, q1, q2, q3, q4⟩ := I.ex
  have ho : ∀ x ∈ hs, x.Ok := fun x hx => ⟨by have := q2 x hx; omega, by have := q2 x hx; omega, (q3 x hx).1, by have := (q3 x hx).2; omega⟩
  obtain ⟨ls, p5, e5, okL, hl, hp5⟩ := s_letters (u := u) I.pot (by omega) ho (by omega) (by omega)
  have H : Hld hs ls u := ⟨ho, by omega, by omega, u0, by omega, okL⟩
  have e6 := s_boxes H hl
  obtain ⟨x, hm, p6, e7', hp6⟩ := of_box (hs := hs) hp5 (by omega) (by omega) (by omega)
  have hx := ho x hm
  have hx3 := q3 x hm
  have e8 := s_few_right hx u0 (by omega)
  have hx2 : Bx.Ok ⟨1 - x.s, x.k + 1, !x.b⟩ := ⟨by have := hx.s1; simp only; omega, by have := hx.s0; simp only; omega, by simp only; omega, by simp only; omega⟩
  have e9 := s_few_right hx2 u0 (by omega)
  simp only at e9
  have l0 : lenOk (some ([] : List D)) = some [] := rfl
  have l2 : ∀ p q : D, lenOk (some [p, q]) = some [p, q] := fun _ _ => rfl
  refine ⟨p6, ?_⟩
  simp only [Option.bind_some] at e4
  have q1' : PyData.tuple l'.2 = hoD hs := by rw [q1]
  generalize hoD hs = HS at e5 e6 e7' q1'
  generalize lsD ls = LS at e5 e6
  simp [g__law_right, b__law_right, B__law_right, l0, l2, e1', e2, e3, er, e4, q1', e5, e6, e7', e8, e9]
end DL

set_option Elab.async false
set_option linter.all false
set_option maxRecDepth 100000
set_option maxHeartbeats 4000000
set_option autoImplicit false
namespace DL
open PySem PySem.Spec PyProof.Rows L2 K75

theorem plain_law (ns : List Int) (hl : ns.length ≤ 63) : g_law [.list (ns.map .int)] = some (.bool true) := by
  obtain ⟨m, m1, m2, hc⟩ := cells_ok ns
  have lc : lcF some (fun p1 : D => some true) (fun p1 : D => (g__law_pot [.list (ns.map .int), p1]).bind fun ps => (some []).bind fun ds => (g__law_right ps ds).map (·.1)) ((List.range m).map fun i => .int (i : Nat)) = some ((List.range m).map fun _ => .bool true) := by
    refine lcF_all (fun i : Nat => .int (i : Nat)) (fun _ => .bool true) (List.range m) fun i hi => ⟨_, rfl, ?_⟩
    obtain ⟨ps, e, hp⟩ := pot_ok ns (p := i) (by have := List.mem_range.mp hi; omega)
    obtain ⟨ps', e2⟩ := right_ok hp
    rw [e, Option.bind_some, Option.bind_some, e2]
    rfl
  unfold g_law
  simp only [b_law]
  unfold B_law
  simp only [consO_s, Option.bind_some, hc, Option.map_some, iterS_l]
  simp only [Option.bind_some] at lc
  rw [lc, lenOk_s (by simp; omega), Option.map_some, consO_s, Option.bind_some, dAll_map]
  simp
end DL

theorem PySem.Challenge.cw_holesheldopen_k75_whole_holes_open_told_holds : PySem.Challenge.rw_holesheldopen_k75_whole_holes_open_told.Holds :=
  DL.the_end DL.plain_law
