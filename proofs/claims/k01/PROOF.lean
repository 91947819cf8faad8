import PyProof.Rows.All
import Wide.All
import OpenK.AllK
import Wide.FinOn
import PySem.Challenge.RW_kindsandroles_k01_terms_terminologies_an
import HandS.ForMost
import HandS.ForExc
import HandS.Deep
import HandS.TryMany
import HandS.IsInst
import HandS.TupAny
import HandS.Conv
import HandS.SortRule
import HandS.SortInts
import HandS.BoundDict
import HandS.Small
import HandS.TupMul
import HandS.Wide
import HandS.TupLe
import PyProof.P3In
import HandS.Zip
import HandS.More
import HandS.CallRecv
import HandS.CallLocal
import HandS.Style
import HandS.SortOrd
import HandS.RaiseMore
import KE.GoesMore
import PyProof.EnumMake
import PyProof.Draws
import HandS.TupLen
import HandS.Ends
import KE.KeyNested
import HandS.TupSets
set_option Elab.async false
set_option autoImplicit false
set_option linter.all false
set_option maxRecDepth 100000
/-! Pure tuples over the hand layer: values W (tuples told by their items), a store Mem of what may change, readings of expressions and statements over them. -/
namespace MP
open PySem PySem.Spec PyProof.Rows L2

/-! ### values -/
inductive W where
  | non
  | bl (b : Bool)
  | int (i : Int)
  | str (x : Str)
  | tup (l : List W)
  | ref (a : Addr)
  | ty (n : String)
  /-- a list that nothing can write: the script -/
  | rl (l : List W)

/-- a list that is locked, or of the written part -/
def SqR (K : PySem.W.Frag) (H : Hp) (a : Addr) (xs : List V) : Prop := (∃ o, H a = some (.frz o (.lst xs))) ∨ ∃ o its n, List.lookup a K = some o ∧ o.cls = Value.type "list" ∧ o.dict = none ∧ o.data = Data.seq its n ∧ its.size ≤ sizeLine ∧ Vals xs its.toList
theorem SqR.sq {K : PySem.W.Frag} {H : Hp} {a : Addr} {xs : List V} (h : SqR K H a xs) : SqL K H a xs := by
  rcases h with ⟨o, h⟩ | h
  · exact .inl (.inr ⟨o, h⟩)
  · exact .inr h
mutual
inductive RV (K : PySem.W.Frag) (H : Hp) : V → W → Prop
  | non : RV K H .non .non
  | bl (b : Bool) : RV K H (.bl b) (.bl b)
  | int (i : Int) : RV K H (.int i) (.int i)
  | str (x : Str) : RV K H (.str x) (.str x)
  | ref (a : Addr) : RV K H (.ref a) (.ref a)
  | ty (n : String) : RV K H (.ty n) (.ty n)
  | tup {a : Addr} {vs : List V} {ws : List W} : H a = some (.tup vs) → RVs K H vs ws → RV K H (.ref a) (.tup ws)
  | rl {a : Addr} {vs : List V} {ws : List W} : SqR K H a vs → RVs K H vs ws → RV K H (.ref a) (.rl ws)
inductive RVs (K : PySem.W.Frag) (H : Hp) : List V → List W → Prop
  | nil : RVs K H [] []
  | cons {v : V} {w : W} {vs : List V} {ws : List W} : RV K H v w → RVs K H vs ws → RVs K H (v :: vs) (w :: ws)
end

/-- tuples stay, and locked lists -/
structure Grow (K : PySem.W.Frag) (H H' : Hp) : Prop where
  t : ∀ a xs, H a = some (HO.tup xs) → H' a = some (HO.tup xs)
  r : ∀ a xs, SqR K H a xs → SqR K H' a xs
section
variable {K : PySem.W.Frag} {H H' H1 H2 : Hp} {v u : V} {w x : W} {vs us : List V} {ws xs : List W} {a p : Addr} {o : HO}
theorem Grow.refl : Grow K H H := ⟨fun _ _ h => h, fun _ _ h => h⟩
theorem Grow.trans (g : Grow K H H1) (g' : Grow K H1 H2) : Grow K H H2 := ⟨fun a xs h => g'.t a xs (g.t a xs h), fun a xs h => g'.r a xs (g.r a xs h)⟩
theorem Grow.of (h : ∀ b u, ((∃ xs, u = HO.tup xs) ∨ ∃ o z, u = HO.frz o z) → H b = some u → H' b = some u) : Grow K H H' := ⟨fun b xs q => by
  exact h b _ (.inl ⟨xs, rfl⟩) q, fun b xs q => by
  rcases q with ⟨o, q⟩ | q
  · exact .inl ⟨o, h b _ (.inr ⟨o, _, rfl⟩) q⟩
  · exact .inr q⟩
theorem grow_new (h : H p = none) : Grow K H (upd H p o) := Grow.of fun b u _ q => by
  rw [upd_ne (ne_of_none q h)]
  exact q
/-- what may change is no tuple -/
def NoTup : HO → Prop
  | .tup _ => False
  | .frz _ _ => False
  | _ => True
theorem grow_mut {u : HO} (h : H p = some u) (n : NoTup u) : Grow K H (upd H p o) := Grow.of fun b z hz q => by
  refine (upd_ne fun e => ?_).trans q
  subst e
  rw [h] at q
  cases q
  rcases hz with ⟨xs, e⟩ | ⟨o, xs, e⟩
  · subst e; exact n
  · subst e; exact n
mutual
theorem RV.mono (g : Grow K H H') : ∀ {v : V} {w : W}, RV K H v w → RV K H' v w
  | _, _, .non => .non
  | _, _, .bl b => .bl b
  | _, _, .int i => .int i
  | _, _, .str x => .str x
  | _, _, .ref a => .ref a
  | _, _, .ty n => .ty n
  | _, _, .tup s r => .tup (g.t _ _ s) (RVs.mono g r)
  | _, _, .rl s r => .rl (g.r _ _ s) (RVs.mono g r)
theorem RVs.mono (g : Grow K H H') : ∀ {vs : List V} {ws : List W}, RVs K H vs ws → RVs K H' vs ws
  | _, _, .nil => .nil
  | _, _, .cons r t => .cons (RV.mono g r) (RVs.mono g t)
end
theorem RVs.length : ∀ {vs : List V} {ws : List W}, RVs K H vs ws → vs.length = ws.length
  | _, _, .nil => rfl
  | _, _, .cons _ t => by rw [List.length_cons, List.length_cons, RVs.length t]
theorem RVs.get : ∀ {vs : List V} {ws : List W} {i : Nat} {w : W}, RVs K H vs ws → ws[i]? = some w → ∃ v, vs[i]? = some v ∧ RV K H v w
  | _, _, _, _, .nil, e => by simp at e
  | _, _, 0, _, .cons r _, e => by simp at e; subst e; exact ⟨_, rfl, r⟩
  | _, _, i + 1, _, .cons _ t, e => by
    obtain ⟨v, h1, h2⟩ := RVs.get (i := i) t (by simpa using e)
    exact ⟨v, by simpa using h1, h2⟩
theorem RVs.get' : ∀ {vs : List V} {ws : List W} {i : Nat} {v : V}, RVs K H vs ws → vs[i]? = some v → ∃ w, ws[i]? = some w ∧ RV K H v w
  | _, _, _, _, .nil, e => by simp at e
  | _, _, 0, _, .cons r _, e => by simp at e; subst e; exact ⟨_, rfl, r⟩
  | _, _, i + 1, _, .cons _ t, e => by
    obtain ⟨v, h1, h2⟩ := RVs.get' (i := i) t (by simpa using e)
    exact ⟨v, by simpa using h1, h2⟩
theorem RVs.one (r : RVs K H vs [w]) : ∃ v, vs = [v] ∧ RV K H v w := by
  cases r with
  | cons r0 t =>
    cases t
    exact ⟨_, rfl, r0⟩
theorem RVs.two (r : RVs K H vs [w, x]) : ∃ v u, vs = [v, u] ∧ RV K H v w ∧ RV K H u x := by
  cases r with
  | cons r0 t =>
    obtain ⟨u, e, r1⟩ := t.one
    subst e
    exact ⟨_, _, rfl, r0, r1⟩
theorem RVs.append : ∀ {vs us : List V} {ws xs : List W}, RVs K H vs ws → RVs K H us xs → RVs K H (vs ++ us) (ws ++ xs)
  | _, _, _, _, .nil, s => s
  | _, _, _, _, .cons r t, s => .cons r (RVs.append t s)
theorem RVs.take : ∀ {vs : List V} {ws : List W} (n : Nat), RVs K H vs ws → RVs K H (vs.take n) (ws.take n)
  | _, _, 0, _ => by simpa using RVs.nil
  | _, _, n + 1, .nil => by simpa using RVs.nil
  | _, _, n + 1, .cons r t => by simpa using RVs.cons r (RVs.take n t)
theorem RVs.drop : ∀ {vs : List V} {ws : List W} (n : Nat), RVs K H vs ws → RVs K H (vs.drop n) (ws.drop n)
  | _, _, 0, r => r
  | _, _, n + 1, .nil => by simpa using RVs.nil
  | _, _, n + 1, .cons _ t => by simpa using RVs.drop n t
theorem RVs.set (r : RV K H v w) : ∀ {vs : List V} {ws : List W} (n : Nat), RVs K H vs ws → RVs K H (vs.set n v) (ws.set n w)
  | _, _, _, .nil => by simpa using RVs.nil
  | _, _, 0, .cons _ t => by simpa using RVs.cons r t
  | _, _, n + 1, .cons q t => by simpa using RVs.cons q (RVs.set r n t)
theorem RVs.reverse : ∀ {vs : List V} {ws : List W}, RVs K H vs ws → RVs K H vs.reverse ws.reverse
  | _, _, .nil => by simpa using RVs.nil
  | _, _, .cons r t => by
    rw [List.reverse_cons, List.reverse_cons]
    exact RVs.append (RVs.reverse t) (.cons r .nil)
theorem RVs.dropLast {vs : List V} {ws : List W} (r : RVs K H vs ws) : RVs K H vs.dropLast ws.dropLast := by
  rw [List.dropLast_eq_take, List.dropLast_eq_take, r.length]
  exact r.take _
theorem RVs.eraseIdx : ∀ {vs : List V} {ws : List W} (n : Nat), RVs K H vs ws → RVs K H (vs.eraseIdx n) (ws.eraseIdx n)
  | _, _, _, .nil => by simpa using RVs.nil
  | _, _, 0, .cons _ t => by simpa using t
  | _, _, n + 1, .cons q t => by simpa using RVs.cons q (RVs.eraseIdx n t)
theorem RVs.ints : ∀ (ns : List Int), RVs K H (ns.map V.int) (ns.map W.int)
  | [] => .nil
  | n :: r => .cons (.int n) (RVs.ints r)
theorem RVs.of_ints : ∀ {vs : List V} {ns : List Int}, RVs K H vs (ns.map W.int) → vs = ns.map V.int
  | _, [], .nil => rfl
  | _, n :: r, .cons h t => by
    cases h
    rw [List.map_cons, ← RVs.of_ints t]
theorem RVs.of_bls : ∀ {vs : List V} {ns : List Bool}, RVs K H vs (ns.map W.bl) → vs = ns.map V.bl
  | _, [], .nil => rfl
  | _, n :: r, .cons h t => by
    cases h
    rw [List.map_cons, ← RVs.of_bls t]
theorem RVs.of_strs : ∀ {vs : List V} {ns : List Str}, RVs K H vs (ns.map W.str) → vs = ns.map V.str
  | _, [], .nil => rfl
  | _, n :: r, .cons h t => by
    cases h
    rw [List.map_cons, ← RVs.of_strs t]
end

theorem sqT_of {K : PySem.W.Frag} {H : Hp} {a : Addr} {xs : List V} (h : H a = some (.tup xs)) : SqT K H a xs := .inl (.inl h)
/-! ### the store -/
inductive MO where
  | lst (l : List W)
  /-- a list that is read alone -/
  | rol (l : List W)
  /-- an instance: its class, its dict, its fields -/
  | ins (C dx : Addr) (fs : List (Str × W))
  /-- a dict by ints and texts; by flat tuples -/
  | dk (kvs : List (Key × W))
  | dt (kvs : List (List Key × W))
  /-- a dict by flat tuples that is walked over: what stood there when it was locked -/
  | rdt (o : Obj) (gs : List (List Key × V)) (kvs : List (List Key × W))
abbrev Mem := Addr → Option MO
def updM (μ : Mem) (a : Addr) (o : MO) : Mem := fun b => if b = a then some o else μ b
theorem updM_same {μ : Mem} {a : Addr} {o : MO} : updM μ a o a = some o := by unfold updM; rw [if_pos rfl]
theorem updM_ne {μ : Mem} {a b : Addr} {o : MO} (h : b ≠ a) : updM μ a o b = μ b := by unfold updM; rw [if_neg h]

/-- pairs of a key and a value -/
inductive RK {κ : Type} (K : PySem.W.Frag) (H : Hp) : List (κ × V) → List (κ × W) → Prop
  | nil : RK K H [] []
  | cons {k : κ} {v : V} {w : W} {r : List (κ × V)} {t : List (κ × W)} : RV K H v w → RK K H r t → RK K H ((k, v) :: r) ((k, w) :: t)
theorem RK.mono {κ : Type} {K : PySem.W.Frag} {H H' : Hp} (g : Grow K H H') : ∀ {r : List (κ × V)} {t : List (κ × W)}, RK K H r t → RK K H' r t
  | _, _, .nil => .nil
  | _, _, .cons h t => .cons (h.mono g) (RK.mono g t)
theorem RK.length {κ : Type} {K : PySem.W.Frag} {H : Hp} : ∀ {r : List (κ × V)} {t : List (κ × W)}, RK K H r t → r.length = t.length
  | _, _, .nil => rfl
  | _, _, .cons h t => by rw [List.length_cons, List.length_cons, RK.length t]

def RO (K : PySem.W.Frag) (H : Hp) (a : Addr) : MO → Prop
  | .lst l => ∃ vs, H a = some (.lst vs) ∧ RVs K H vs l
  | .rol l => ∃ vs, Rd H a (.lst vs) ∧ RVs K H vs l
  | .ins C dx fs => ∃ gs, H a = some (.ins C dx gs) ∧ RK K H gs fs
  | .dk kvs => ∃ gs, H a = some (.dK gs) ∧ RK K H gs kvs
  | .dt kvs => ∃ gs, H a = some (.dT gs) ∧ RK K H gs kvs
  | .rdt o gs kvs => H a = some (.frz o (.dT gs)) ∧ RK K H gs kvs
def RM (K : PySem.W.Frag) (H : Hp) (μ : Mem) : Prop := ∀ a o, μ a = some o → RO K H a o
section
variable {K : PySem.W.Frag} {H H' : Hp} {μ : Mem} {a p : Addr} {o : MO}
theorem RO.some (h : RO K H a o) : ∃ u, H a = some u := by
  cases o with
  | lst l => obtain ⟨_, e, _⟩ := h; exact ⟨_, e⟩
  | rol l =>
    obtain ⟨_, e | ⟨_, e⟩, _⟩ := h
    · exact ⟨_, e⟩
    · exact ⟨_, e⟩
  | ins C dx fs => obtain ⟨_, e, _⟩ := h; exact ⟨_, e⟩
  | dk l => obtain ⟨_, e, _⟩ := h; exact ⟨_, e⟩
  | dt l => obtain ⟨_, e, _⟩ := h; exact ⟨_, e⟩
  | rdt o gs l => exact ⟨_, h.1⟩
theorem RO.mono (g : Grow K H H') (e : H' a = H a) (h : RO K H a o) : RO K H' a o := by
  cases o with
  | lst l => obtain ⟨_, q, r⟩ := h; exact ⟨_, e.trans q, r.mono g⟩
  | rol l =>
    obtain ⟨_, q | ⟨z, q⟩, r⟩ := h
    · exact ⟨_, .inl (e.trans q), r.mono g⟩
    · exact ⟨_, .inr ⟨z, e.trans q⟩, r.mono g⟩
  | ins C dx fs => obtain ⟨_, q, r⟩ := h; exact ⟨_, e.trans q, r.mono g⟩
  | dk l => obtain ⟨_, q, r⟩ := h; exact ⟨_, e.trans q, r.mono g⟩
  | dt l => obtain ⟨_, q, r⟩ := h; exact ⟨_, e.trans q, r.mono g⟩
  | rdt o gs l => exact ⟨e.trans h.1, h.2.mono g⟩
theorem RM.fresh (m : RM K H μ) (h : H p = none) : μ p = none := by
  cases e : μ p with
  | none => rfl
  | some o =>
    obtain ⟨u, q⟩ := (m p o e).some
    rw [h] at q
    cases q
/-- a new object, not in the store -/
theorem RM.new (m : RM K H μ) (h : H p = none) {u : HO} : RM K (upd H p u) μ := fun b o e => by
  have hb : b ≠ p := fun z => by
    subst z
    rw [m.fresh h] at e
    cases e
  exact (m b o e).mono (grow_new h) (upd_ne hb)
/-- the object at p is o now -/
theorem RM.put (m : RM K H μ) {u : HO} (g : Grow K H (upd H p u)) (r : RO K (upd H p u) p o) : RM K (upd H p u) (updM μ p o) := fun b z e => by
  by_cases hb : b = p
  · subst hb
    rw [updM_same] at e
    cases e
    exact r
  · rw [updM_ne hb] at e
    exact (m b z e).mono g (upd_ne hb)
end

/-- from (μ, H) to (μ', H'): tuples stay; what stood and was not in the store stands as it was, and is not in it -/
structure Gr (K : PySem.W.Frag) (μ : Mem) (H : Hp) (μ' : Mem) (H' : Hp) : Prop where
  g : Grow K H H'
  f : ∀ a o, H a = some o → μ a = none → H' a = some o ∧ μ' a = none
/-- a part of a store -/
def Sub (ν μ : Mem) : Prop := ∀ a o, ν a = some o → μ a = some o
section
variable {K : PySem.W.Frag} {H H' H1 H2 : Hp} {μ μ' μ1 μ2 ν : Mem} {a p : Addr} {o u : HO} {m : MO}
theorem Sub.refl : Sub μ μ := fun _ _ h => h
theorem Sub.trans (a : Sub μ μ1) (b : Sub μ1 μ2) : Sub μ μ2 := fun c o h => b c o (a c o h)
theorem Sub.none (s : Sub ν μ) (h : μ a = none) : ν a = none := by
  cases e : ν a with
  | none => rfl
  | some o =>
    rw [s a o e] at h
    cases h
theorem RM.sub (m : RM K H μ) (s : Sub ν μ) : RM K H ν := fun a o h => m a o (s a o h)
theorem Gr.refl : Gr K μ H μ H := ⟨Grow.refl, fun _ _ h n => ⟨h, n⟩⟩
theorem Gr.trans (x : Gr K μ H μ1 H1) (y : Gr K μ1 H1 μ2 H2) : Gr K μ H μ2 H2 := ⟨x.g.trans y.g, fun a o h n => by
  obtain ⟨h1, n1⟩ := x.f a o h n
  exact y.f a o h1 n1⟩
theorem Gr.drop (x : Gr K μ H μ1 H1) (s : Sub ν μ1) : Gr K μ H ν H1 := ⟨x.g, fun a o h n => by
  obtain ⟨h1, n1⟩ := x.f a o h n
  exact ⟨h1, s.none n1⟩⟩
/-- a new object that the store does not know -/
theorem Gr.new0 (h : H p = none) : Gr K μ H μ (upd H p o) := ⟨grow_new h, fun a z e n => ⟨by
  rw [upd_ne (ne_of_none e h)]
  exact e, n⟩⟩
theorem Gr.new (h : H p = none) : Gr K μ H (updM μ p m) (upd H p o) := ⟨grow_new h, fun a z e n => ⟨by
  rw [upd_ne (ne_of_none e h)]
  exact e, by
  rw [updM_ne (ne_of_none e h)]
  exact n⟩⟩
/-- an object of the store is written -/
theorem Gr.mut {m0 : MO} (h : H p = some u) (n : NoTup u) (k : μ p = some m0) : Gr K μ H (updM μ p m) (upd H p o) := ⟨grow_mut h n, fun a z e q => by
  have hne : a ≠ p := fun z => by
    subst z
    rw [k] at q
    cases q
  exact ⟨by rw [upd_ne hne]; exact e, by rw [updM_ne hne]; exact q⟩⟩
end

/-! ### slots -/
abbrev MEnv := List (Option W)
structure RS (K : PySem.W.Frag) (H : Hp) (σ : L2.St) (ρ : MEnv) : Prop where
  len : σ.length = ρ.length
  get : ∀ (i : Nat) (w : W), ρ[i]? = some (some w) → ∃ v, σ[i]? = some (some v) ∧ RV K H v w
theorem RS.mono {K : PySem.W.Frag} {H H' : Hp} {σ : L2.St} {ρ : MEnv} (g : Grow K H H') (r : RS K H σ ρ) : RS K H' σ ρ := ⟨r.len, fun i w e => by
  obtain ⟨v, h1, h2⟩ := r.get i w e
  exact ⟨v, h1, h2.mono g⟩⟩
theorem RS.set {K : PySem.W.Frag} {H : Hp} {σ : L2.St} {ρ : MEnv} {v : V} {w : W} (r : RS K H σ ρ) (i : Nat) (h : RV K H v w) : RS K H (σ.set i (some v)) (ρ.set i (some w)) := ⟨by
  rw [List.length_set, List.length_set]
  exact r.len, fun j x e => by
  by_cases hj : i = j
  · subst hj
    by_cases hi : i < ρ.length
    · rw [List.getElem?_set_self hi] at e
      cases e
      exact ⟨v, List.getElem?_set_self (by rw [r.len]; exact hi), h⟩
    · rw [List.getElem?_eq_none (by rw [List.length_set]; omega)] at e
      cases e
  · rw [List.getElem?_set_ne hj] at e ⊢
    exact r.get j x e⟩
def wipeM (ρ : MEnv) : List Nat → MEnv
  | [] => ρ
  | v :: vs => (wipeM ρ vs).set v none
theorem wipeM_length (ρ : MEnv) : ∀ vs : List Nat, (wipeM ρ vs).length = ρ.length
  | [] => rfl
  | v :: vs => by unfold wipeM; rw [List.length_set, wipeM_length ρ vs]
theorem wipeM_some {ρ : MEnv} {i : Nat} {x : W} : ∀ {vs : List Nat}, (wipeM ρ vs)[i]? = some (some x) → ρ[i]? = some (some x) ∧ i ∉ vs
  | [], h => ⟨h, by simp⟩
  | v :: vs, h => by
    unfold wipeM at h
    by_cases hi : v = i
    · subst hi
      by_cases hv : v < (wipeM ρ vs).length
      · rw [List.getElem?_set_self hv] at h; cases h
      · rw [List.getElem?_eq_none (by simpa using hv)] at h; cases h
    · rw [List.getElem?_set_ne hi] at h
      obtain ⟨h1, h2⟩ := wipeM_some h
      exact ⟨h1, by simp only [List.mem_cons, not_or]; exact ⟨fun e => hi e.symm, h2⟩⟩
theorem wipe_keeps {σ : L2.St} {i : Nat} : ∀ {vs : List Nat}, i ∉ vs → (wipe σ vs)[i]? = σ[i]?
  | [], _ => rfl
  | v :: vs, h => by
    unfold wipe
    have h1 : v ≠ i := fun e => h (by simp [e])
    rw [List.getElem?_set_ne h1]
    exact wipe_keeps fun z => h (by simp [z])
theorem RS.wipe {K : PySem.W.Frag} {H : Hp} {σ : L2.St} {ρ : MEnv} (r : RS K H σ ρ) (vs : List Nat) : RS K H (wipe σ vs) (wipeM ρ vs) := ⟨by
  rw [wipe_length, wipeM_length]
  exact r.len, fun i w e => by
  obtain ⟨e1, e2⟩ := wipeM_some e
  obtain ⟨v, h1, h2⟩ := r.get i w e1
  exact ⟨v, (wipe_keeps e2).trans h1, h2⟩⟩

/-! ### exceptions -/
structure MX where
  name : Str
  arg : Option W
def RX (K : PySem.W.Frag) (mg : Str → Option Value) (H : Hp) (cls : Value) (d : Option Addr) (x : MX) : Prop :=
  mg x.name = some cls ∧ ∀ w, x.arg = some w → ∃ dd f v, d = some dd ∧ H dd = some (.xd [(f, v)]) ∧ RV K H v w

/-! ### readings -/
abbrev MQ := W → Mem → Prop
abbrev MXK := MX → Mem → Prop
abbrev ME := MEnv → Mem → MQ → MXK → Prop
abbrev MA := MEnv → Mem → (List W → Mem → Prop) → MXK → Prop
abbrev MT := MEnv → Mem → (Bool → Mem → Prop) → MXK → Prop
abbrev MXS := MX → MEnv → Mem → Prop
structure MEnds where
  nx : MEnv → Mem → Prop
  rt : MQ
  bk : MEnv → Mem → Prop := fun _ _ => False
  ct : MEnv → Mem → Prop := fun _ _ => False
abbrev MS := MEnv → Mem → MEnds → MXS → Prop
abbrev MG := W → MEnv → Mem → (MEnv → Mem → Prop) → Prop
abbrev MGs := List W → MEnv → Mem → (MEnv → Mem → Prop) → Prop
/-- what a def promises -/
abbrev MSp := List W → Mem → MQ → MXK → Prop
abbrev O2 := W → W → Mem → MQ → Prop
abbrev O1 := W → Mem → MQ → Prop
abbrev OC := List W → Mem → MQ → Prop

section
variable (K : PySem.W.Frag) (mg : Str → Option Value) (Wx : WX)
/-- the wish of a value, of an exception, of what a statement leaves -/
def PQ (μ : Mem) (H : Hp) (Qm : MQ) (Q : VK) : Prop := ∀ v H' x μ', Gr K μ H μ' H' → RV K H' v x → RM K H' μ' → Qm x μ' → Q v H'
def PXq (μ : Mem) (H : Hp) (Em : MXK) (E : XK) : Prop := ∀ e H' μ' cls d, Gr K μ H μ' H' → RX K mg H' cls d e → RM K H' μ' → Em e μ' → E cls d H'
def PN (μ : Mem) (H : Hp) (Qm : MEnv → Mem → Prop) (Q : L2.St → Hp → Prop) : Prop := ∀ σ' H' ρ' μ', Gr K μ H μ' H' → RS K H' σ' ρ' → RM K H' μ' → Qm ρ' μ' → Q σ' H'
def PXs (μ : Mem) (H : Hp) (Em : MXS) : Prop := ∀ e H' σ' ρ' μ' cls d, Gr K μ H μ' H' → RS K H' σ' ρ' → RX K mg H' cls d e → RM K H' μ' → Em e ρ' μ' → Wx cls d σ' H'
def liftE (m : ME) : TE := fun σ H Q => ∃ ρ μ Qm Em, RS K H σ ρ ∧ RM K H μ ∧ m ρ μ Qm Em ∧ PQ K μ H Qm Q ∧ PXq K mg μ H Em (fun cls d H' => Wx cls d σ H')
def liftT (m : MT) : TT := fun σ H Q => ∃ ρ μ Qm Em, RS K H σ ρ ∧ RM K H μ ∧ m ρ μ Qm Em ∧ (∀ b H' μ', Gr K μ H μ' H' → RM K H' μ' → Qm b μ' → Q b H') ∧ PXq K mg μ H Em (fun cls d H' => Wx cls d σ H')
def liftA (m : MA) : TA := fun σ H Q => ∃ ρ μ Qm Em, RS K H σ ρ ∧ RM K H μ ∧ m ρ μ Qm Em ∧ (∀ vs H' ws μ', Gr K μ H μ' H' → RVs K H' vs ws → RM K H' μ' → Qm ws μ' → Q vs H') ∧ PXq K mg μ H Em (fun cls d H' => Wx cls d σ H')
def liftS (m : MS) : TS := fun D σ H => ∃ ρ μ Dm Em, RS K H σ ρ ∧ RM K H μ ∧ m ρ μ Dm Em ∧ PN K μ H Dm.nx D.nx ∧ PQ K μ H Dm.rt D.rt ∧ PN K μ H Dm.bk D.bk ∧ PN K μ H Dm.ct D.ct ∧ PXs K mg Wx μ H Em
/-- a target; vs: the slots that it may set -/
def liftG (vs : List Nat) (m : MG) : TG := fun v σ H Q => ∃ w ρ μ Qm, RV K H v w ∧ RS K H σ ρ ∧ RM K H μ ∧ m w ρ μ Qm ∧ (∀ σ' H' ρ' μ', Gr K μ H μ' H' → RS K H' σ' ρ' → RM K H' μ' → wipe σ' vs = wipe σ vs → Qm ρ' μ' → Q σ' H')
def liftGs (vs : List Nat) (m : MGs) : TGs := fun us σ H Q => ∃ ws ρ μ Qm, RVs K H us ws ∧ RS K H σ ρ ∧ RM K H μ ∧ m ws ρ μ Qm ∧ (∀ σ' H' ρ' μ', Gr K μ H μ' H' → RS K H' σ' ρ' → RM K H' μ' → wipe σ' vs = wipe σ vs → Qm ρ' μ' → Q σ' H')
def lift2 (r : O2) : R2 := fun v u H Q => ∃ x y μ Qm, RV K H v x ∧ RV K H u y ∧ RM K H μ ∧ r x y μ Qm ∧ PQ K μ H Qm Q
def lift1 (r : O1) : V → Hp → VK → Prop := fun v H Q => ∃ x μ Qm, RV K H v x ∧ RM K H μ ∧ r x μ Qm ∧ PQ K μ H Qm Q
def liftC (r : OC) : List V → Hp → VK → Prop := fun vs H Q => ∃ xs μ Qm, RVs K H vs xs ∧ RM K H μ ∧ r xs μ Qm ∧ PQ K μ H Qm Q
/-- a method of a built-in: the receiver, the arguments -/
def liftM (r : W → List W → Mem → MQ → Prop) : V → List V → Hp → VK → Prop := fun v vs H Q => ∃ x xs μ Qm, RV K H v x ∧ RVs K H vs xs ∧ RM K H μ ∧ r x xs μ Qm ∧ PQ K μ H Qm Q
def spM (S : MSp) : Sp := fun vs H Q E => ∃ ws μ Qm Em, RVs K H vs ws ∧ RM K H μ ∧ S ws μ Qm Em ∧ PQ K μ H Qm Q ∧ PXq K mg μ H Em E
end

/-- where a piece of text stands -/
structure Good (X : Cx) (Wx : WX) : Prop where
  calm : X.calm = true
  tk : Takes X Wx
abbrev PEm (X : Cx) (Wx : WX) (e : Expr) (m : ME) : Prop := PE X e (liftE X.K X.mg Wx m)
abbrev PTm (X : Cx) (Wx : WX) (e : Expr) (m : MT) : Prop := PT X e (liftT X.K X.mg Wx m)
abbrev PWm (X : Cx) (Wx : WX) (e : Expr) (m : MT) : Prop := PW X e (liftT X.K X.mg Wx m)
abbrev PAm (X : Cx) (Wx : WX) (es : List Expr) (m : MA) : Prop := PA X es (liftA X.K X.mg Wx m)
abbrev PSm (X : Cx) (Wx : WX) (s : Stmt) (m : MS) : Prop := PS X s (liftS X.K X.mg Wx m)
abbrev PSsm (X : Cx) (Wx : WX) (s : List Stmt) (m : MS) : Prop := PSs X s (liftS X.K X.mg Wx m)
abbrev PGm (X : Cx) (e : Expr) (vs : List Nat) (m : MG) : Prop := PG X e (liftG X.K vs m)
abbrev PGsm (X : Cx) (es : List Expr) (vs : List Nat) (m : MGs) : Prop := PGs X es (liftGs X.K vs m)

/-! ### weakening of readings -/
section
variable {X : Cx}
theorem PE.imp {e : Expr} {t t' : TE} (h : PE X e t) (q : ∀ σ H Q, t' σ H Q → t σ H Q) : PE X e t' := ⟨fun pins s σ H Q I z => h.run pins s σ H Q I (q σ H Q z)⟩
theorem PT.imp {e : Expr} {t t' : TT} (h : PT X e t) (q : ∀ σ H Q, t' σ H Q → t σ H Q) : PT X e t' := ⟨fun pins s σ H Q I z => h.run pins s σ H Q I (q σ H Q z)⟩
theorem PW.imp {e : Expr} {t t' : TT} (h : PW X e t) (q : ∀ σ H Q, t' σ H Q → t σ H Q) : PW X e t' := ⟨fun wh pins s σ H Q I z => h.run wh pins s σ H Q I (q σ H Q z)⟩
theorem PA.imp {e : List Expr} {t t' : TA} (h : PA X e t) (q : ∀ σ H Q, t' σ H Q → t σ H Q) : PA X e t' := ⟨fun pos pins s σ H Q I z => h.run pos pins s σ H Q I (q σ H Q z)⟩
theorem PS.imp {e : Stmt} {t t' : TS} (h : PS X e t) (q : ∀ D σ H, t' D σ H → t D σ H) : PS X e t' := ⟨fun pins s σ H D I z => h.run pins s σ H D I (q D σ H z)⟩
theorem PSs.imp {e : List Stmt} {t t' : TS} (h : PSs X e t) (q : ∀ D σ H, t' D σ H → t D σ H) : PSs X e t' := ⟨fun pins s σ H D I z => h.run pins s σ H D I (q D σ H z)⟩
theorem PG.imp {e : Expr} {t t' : TG} (h : PG X e t) (q : ∀ v σ H Q, t' v σ H Q → t v σ H Q) : PG X e t' := ⟨fun pins s σ H v u Q I r z => h.run pins s σ H v u Q I r (q v σ H Q z)⟩
theorem PGs.imp {e : List Expr} {t t' : TGs} (h : PGs X e t) (q : ∀ v σ H Q, t' v σ H Q → t v σ H Q) : PGs X e t' := ⟨fun pins s σ H v u Q I r z => h.run pins s σ H v u Q I r (q v σ H Q z)⟩
end
section
variable {K : PySem.W.Frag} {mg : Str → Option Value} {Wx : WX} {H H' : Hp} {μ μ' : Mem} {Qm : MQ} {Q : VK} {Em : MXK} {E : XK}
theorem PQ.mono (g : Gr K μ H μ' H') (h : PQ K μ H Qm Q) : PQ K μ' H' Qm Q := fun v H2 x μ2 g2 => h v H2 x μ2 (g.trans g2)
theorem PXq.mono (g : Gr K μ H μ' H') (h : PXq K mg μ H Em E) : PXq K mg μ' H' Em E := fun e H2 μ2 cls d g2 => h e H2 μ2 cls d (g.trans g2)
theorem PN.mono {Qn : MEnv → Mem → Prop} {R : L2.St → Hp → Prop} (g : Gr K μ H μ' H') (h : PN K μ H Qn R) : PN K μ' H' Qn R := fun v H2 x μ2 g2 => h v H2 x μ2 (g.trans g2)
theorem PXs.mono {Es : MXS} (g : Gr K μ H μ' H') (h : PXs K mg Wx μ H Es) : PXs K mg Wx μ' H' Es := fun e H2 σ ρ μ2 cls d g2 => h e H2 σ ρ μ2 cls d (g.trans g2)
end
/-- Q, of a part of the store -/
def Dn {α : Type} (Q : α → Mem → Prop) : α → Mem → Prop := fun x μ => ∃ ν, Sub ν μ ∧ Q x ν
theorem Dn.of {α : Type} {Q : α → Mem → Prop} {x : α} {μ : Mem} (h : Q x μ) : Dn Q x μ := ⟨μ, Sub.refl, h⟩
section
variable {K : PySem.W.Frag} {mg : Str → Option Value} {Wx : WX} {H H' : Hp} {μ μ' : Mem} {Qm : MQ} {Q : VK} {Em : MXK} {E : XK}
theorem PQ.dn (h : PQ K μ H Qm Q) : PQ K μ H (Dn Qm) Q := fun v H2 x μ2 g r m ⟨ν, s, q⟩ => h v H2 x ν (g.drop s) r (m.sub s) q
theorem PXq.dn (h : PXq K mg μ H Em E) : PXq K mg μ H (Dn Em) E := fun e H2 μ2 cls d g r m ⟨ν, s, q⟩ => h e H2 ν cls d (g.drop s) r (m.sub s) q
end
section
variable {X : Cx} {Wx : WX} {e : Expr} {m m' : ME}
theorem PEm.imp (h : PEm X Wx e m) (k : ∀ ρ μ Q E, m' ρ μ Q E → m ρ μ (Dn Q) (Dn E)) : PEm X Wx e m' := PE.imp h fun σ H Q z => by
  obtain ⟨ρ, μ, Qm, Em, rs, rm, z, hq, he⟩ := z
  exact ⟨ρ, μ, _, _, rs, rm, k _ _ _ _ z, hq.dn, he.dn⟩
end
end MP
set_option Elab.async false
set_option autoImplicit false
set_option linter.all false
set_option maxRecDepth 100000
namespace MP
open PySem PySem.Spec PyProof.Rows L2

/-! ### readings of expressions -/
def eVar (i : Nat) : ME := fun ρ μ Q _ => ∃ w, ρ[i]? = some (some w) ∧ Q w μ
def eC (w : W) : ME := fun _ μ Q _ => Q w μ
def eOp (r : O2) (a b : ME) : ME := fun ρ μ Q E => a ρ μ (fun x μ1 => b ρ μ1 (fun y μ2 => r x y μ2 Q) E) E
def eUn (r : O1) (a : ME) : ME := fun ρ μ Q E => a ρ μ (fun x μ1 => r x μ1 Q) E
def eChain (r r' : O2) (a b c : ME) : ME := fun ρ μ Q E => a ρ μ (fun x μ1 => b ρ μ1 (fun y μ2 => r x y μ2 fun z μ3 => ∃ k, z = .bl k ∧ if k = true then c ρ μ3 (fun w μ4 => r' y w μ4 Q) E else Q (.bl false) μ3) E) E
def eAnd (a b : ME) : ME := fun ρ μ Q E => a ρ μ (fun x μ1 => ∃ k, x = .bl k ∧ if k = true then b ρ μ1 Q E else Q (.bl false) μ1) E
def eOr (a b : ME) : ME := fun ρ μ Q E => a ρ μ (fun x μ1 => ∃ k, x = .bl k ∧ if k = true then Q (.bl true) μ1 else b ρ μ1 Q E) E
def eNot (a : ME) : ME := fun ρ μ Q E => a ρ μ (fun x μ1 => ∃ k, x = .bl k ∧ Q (.bl (!k)) μ1) E
def eIte (c : MT) (a b : ME) : ME := fun ρ μ Q E => c ρ μ (fun k μ1 => if k = true then a ρ μ1 Q E else b ρ μ1 Q E) E
def aNil : MA := fun _ μ Q _ => Q [] μ
def aCons (a : ME) (t : MA) : MA := fun ρ μ Q E => a ρ μ (fun x μ1 => t ρ μ1 (fun xs μ2 => Q (x :: xs) μ2) E) E
def eTup (t : MA) : ME := fun ρ μ Q E => t ρ μ (fun xs μ1 => xs.length ≤ sizeLine ∧ Q (.tup xs) μ1) E
def eLst (t : MA) : ME := fun ρ μ Q E => t ρ μ (fun xs μ1 => xs.length ≤ sizeLine ∧ ∀ p, μ1 p = none → Q (.ref p) (updM μ1 p (.lst xs))) E
/-- a store behind a call that was handed ν of μ and left ν' -/
def mrg (ν' ν μ : Mem) : Mem := fun a => match ν' a with
  | some o => some o
  | none => match ν a with
    | some _ => none
    | none => μ a
/-- a call by a promise S, which is handed a part of the store; the rest stays -/
def callM (S : MSp) (xs : List W) (μ : Mem) (Q : MQ) (E : MXK) : Prop := ∃ ν, Sub ν μ ∧
  S xs ν (fun v ν' => (∀ a, ν a = none → μ a ≠ none → ν' a = none) → Q v (mrg ν' ν μ)) (fun e ν' => (∀ a, ν a = none → μ a ≠ none → ν' a = none) → E e (mrg ν' ν μ))
def eCall (S : MSp) (t : MA) : ME := fun ρ μ Q E => t ρ μ (fun xs μ1 => callM S xs μ1 Q E) E
def eCB (r : OC) (t : MA) : ME := fun ρ μ Q E => t ρ μ (fun xs μ1 => r xs μ1 Q) E
/-! ### readings of tests -/
def tVal (a : ME) : MT := fun ρ μ Q E => a ρ μ (fun x μ1 => ∃ k, x = .bl k ∧ Q k μ1) E
def tAndM (a b : MT) : MT := fun ρ μ Q E => a ρ μ (fun k μ1 => if k = true then b ρ μ1 Q E else Q false μ1) E
def tOrM (a b : MT) : MT := fun ρ μ Q E => a ρ μ (fun k μ1 => if k = true then Q true μ1 else b ρ μ1 Q E) E
def tNotM (a : MT) : MT := fun ρ μ Q E => a ρ μ (fun k μ1 => Q (!k) μ1) E

section
variable {K : PySem.W.Frag} {H H' : Hp} {μ ν ν' : Mem}
theorem mrg_gr (m : RM K H μ) (s : Sub ν μ) (g : Gr K ν H ν' H') : Gr K μ H (mrg ν' ν μ) H' := ⟨g.g, fun a o h n => by
  obtain ⟨h1, n1⟩ := g.f a o h (s.none n)
  refine ⟨h1, ?_⟩
  unfold mrg
  rw [n1, s.none n]
  exact n⟩
theorem mrg_out (m : RM K H μ) (g : Gr K ν H ν' H') : ∀ a, ν a = none → μ a ≠ none → ν' a = none := fun a n h => by
  cases e : μ a with
  | none => exact absurd e h
  | some o =>
    obtain ⟨u, q⟩ := (m a o e).some
    exact (g.f a u q n).2
theorem mrg_rm (m : RM K H μ) (s : Sub ν μ) (g : Gr K ν H ν' H') (m' : RM K H' ν') : RM K H' (mrg ν' ν μ) := fun a o e => by
  unfold mrg at e
  cases e1 : ν' a with
  | some z =>
    rw [e1] at e
    cases e
    exact m' a _ e1
  | none =>
    rw [e1] at e
    cases e2 : ν a with
    | some z =>
      rw [e2] at e
      cases e
    | none =>
      rw [e2] at e
      obtain ⟨u, q⟩ := (m a o e).some
      exact (m a o e).mono g.g ((g.f a u q e2).1.trans q.symm)
end
theorem callM_sp {K : PySem.W.Frag} {mg : Str → Option Value} {S : MSp} {vs : List V} {xs : List W} {H : Hp} {μ : Mem} {Qm : MQ} {Em : MXK} {Q : VK} {E : XK} (r : RVs K H vs xs) (m : RM K H μ) (h : callM S xs μ Qm Em) (hq : PQ K μ H Qm Q) (he : PXq K mg μ H Em E) :
    spM K mg S vs H Q E := by
  obtain ⟨ν, s, h⟩ := h
  exact ⟨xs, ν, _, _, r, m.sub s, h, fun v H2 x ν2 g r2 m2 q => hq v H2 x _ (mrg_gr m s g) r2 (mrg_rm m s g m2) (q (mrg_out m g)),
    fun e H2 ν2 cls d g r2 m2 q => he e H2 _ cls d (mrg_gr m s g) r2 (mrg_rm m s g m2) (q (mrg_out m g))⟩
section
variable {X : Cx} {Wx : WX} {pos : Pos} {a b c e : Expr} {ma mb mc : ME} {es : List Expr} {mt : MA} {r r' : O2}

theorem m_var (i : Nat) {x : Str} (hN : X.N[i]? = some x := by rfl) (hv : Vis X.env.scope x := by first | exact Or.inl rfl | exact Or.inr (Or.inl rfl) | exact Or.inr (Or.inr rfl)) (hd : (x == ("__debug__" : Str)) = false := by decide)
    (hcd : (x == ("__classdict__" : Str)) = false := by decide) : PEm X Wx (.Name x pos) (eVar i) := PE.imp (pe_var hN hv hd hcd) fun σ H Q h => by
  obtain ⟨ρ, μ, Qm, Em, rs, rm, ⟨w, e, q⟩, hq, _⟩ := h
  obtain ⟨v, h1, h2⟩ := rs.get i w e
  exact ⟨v, h1, hq v H w μ Gr.refl h2 rm q⟩
theorem m_c {v : V} {w : W} (h : PE X e (tC v)) (r : ∀ H, RV X.K H v w) : PEm X Wx e (eC w) := PE.imp h fun σ H Q h => by
  obtain ⟨ρ, μ, Qm, Em, rs, rm, h, hq, _⟩ := h
  exact hq v H w μ Gr.refl (r H) rm h
theorem m_int {i : Int} {j} : PEm X Wx (.Constant (.int i) j pos) (eC (.int i)) := m_c pe_int fun _ => .int i
theorem m_bl {i : Bool} {j} : PEm X Wx (.Constant (.bool i) j pos) (eC (.bl i)) := m_c pe_bl fun _ => .bl i
theorem m_non {j} : PEm X Wx (.Constant .none j pos) (eC .non) := m_c pe_non fun _ => .non
theorem m_str {x : Str} {j} : PEm X Wx (.Constant (.str x) j pos) (eC (.str x)) := m_c pe_str fun _ => .str x
theorem m_glob {x : Str} {v : V} {u : Value} {w : W} (hg : Gl X x) (hm : X.mg x = some u) (r : RelV v u) (rw : ∀ H, RV X.K H v w) (hd : (x == ("__debug__" : Str)) = false := by decide) : PEm X Wx (.Name x pos) (eC w) := m_c (pe_glob hg hm r hd) rw

theorem m_op {op : Operator} (ho : OpR X (binaryOp op) (lift2 X.K r)) (ha : PEm X Wx a ma) (hb : PEm X Wx b mb) : PEm X Wx (.BinOp a op b pos) (eOp r ma mb) := PE.imp (pe_op ho ha hb) fun σ H Q h => by
  obtain ⟨ρ, μ, Qm, Em, rs, rm, h, hq, he⟩ := h
  refine ⟨ρ, μ, _, Em, rs, rm, h, fun v H1 x μ1 g1 r1 m1 q1 => ?_, he⟩
  refine ⟨ρ, μ1, _, Em, rs.mono g1.g, m1, q1, fun u H2 y μ2 g2 r2 m2 q2 => ?_, he.mono g1⟩
  exact ⟨x, y, μ2, Qm, r1.mono g2.g, r2, m2, q2, hq.mono (g1.trans g2)⟩
theorem m_cmp {op : CmpOp} (ho : OpR X (compareOp op) (lift2 X.K r)) (ha : PEm X Wx a ma) (hb : PEm X Wx b mb) (hm : behindInMarks op b = false) : PEm X Wx (.Compare a [op] [b] pos) (eOp r ma mb) := PE.imp (pe_cmpR ho ha hb hm) fun σ H Q h => by
  obtain ⟨ρ, μ, Qm, Em, rs, rm, h, hq, he⟩ := h
  refine ⟨ρ, μ, _, Em, rs, rm, h, fun v H1 x μ1 g1 r1 m1 q1 => ?_, he⟩
  refine ⟨ρ, μ1, _, Em, rs.mono g1.g, m1, q1, fun u H2 y μ2 g2 r2 m2 q2 => ?_, he.mono g1⟩
  exact ⟨x, y, μ2, Qm, r1.mono g2.g, r2, m2, q2, hq.mono (g1.trans g2)⟩
theorem m_ix (ho : IxR X (lift2 X.K r)) (ha : PEm X Wx a ma) (hb : PEm X Wx b mb) (hm : PlainIx b) : PEm X Wx (.Subscript a b pos) (eOp r ma mb) := PE.imp (pe_ix ho ha hb hm) fun σ H Q h => by
  obtain ⟨ρ, μ, Qm, Em, rs, rm, h, hq, he⟩ := h
  refine ⟨ρ, μ, _, Em, rs, rm, h, fun v H1 x μ1 g1 r1 m1 q1 => ?_, he⟩
  refine ⟨ρ, μ1, _, Em, rs.mono g1.g, m1, q1, fun u H2 y μ2 g2 r2 m2 q2 => ?_, he.mono g1⟩
  exact ⟨x, y, μ2, Qm, r1.mono g2.g, r2, m2, q2, hq.mono (g1.trans g2)⟩
theorem m_un {op : UnaryOp} {r : O1} (ho : UnR X (unaryOp op) (lift1 X.K r)) (ha : PEm X Wx a ma) : PEm X Wx (.UnaryOp op a pos) (eUn r ma) := PE.imp (pe_un ho ha) fun σ H Q h => by
  obtain ⟨ρ, μ, Qm, Em, rs, rm, h, hq, he⟩ := h
  refine ⟨ρ, μ, _, Em, rs, rm, h, fun v H1 x μ1 g1 r1 m1 q1 => ?_, he⟩
  exact ⟨x, μ1, Qm, r1, m1, q1, hq.mono g1⟩
theorem m_chain {op op' : CmpOp} (ho : OpR X (compareOp op) (lift2 X.K r)) (ho' : OpR X (compareOp op') (lift2 X.K r')) (ha : PEm X Wx a ma) (hb : PEm X Wx b mb) (hc : PEm X Wx c mc) (hm : lastMarks [op, op'] [b, c] = false := by rfl) :
    PEm X Wx (.Compare a [op, op'] [b, c] pos) (eChain r r' ma mb mc) := PE.imp (pe_chain ho ho' ha hb hc hm) fun σ H Q h => by
  obtain ⟨ρ, μ, Qm, Em, rs, rm, h, hq, he⟩ := h
  refine ⟨ρ, μ, _, Em, rs, rm, h, fun v H1 x μ1 g1 r1 m1 q1 => ?_, he⟩
  refine ⟨ρ, μ1, _, Em, rs.mono g1.g, m1, q1, fun u H2 y μ2 g2 r2 m2 q2 => ?_, he.mono g1⟩
  refine ⟨x, y, μ2, _, r1.mono g2.g, r2, m2, q2, fun z H3 wz μ3 g3 r3 m3 ⟨k, ek, q3⟩ => ?_⟩
  subst ek
  cases r3
  refine ⟨k, rfl, ?_⟩
  by_cases hk : k = true
  · subst hk
    rw [if_pos rfl] at q3 ⊢
    refine ⟨ρ, μ3, _, Em, rs.mono (g1.trans (g2.trans g3)).g, m3, q3, fun w' H4 w4 μ4 g4 r4 m4 q4 => ?_, he.mono (g1.trans (g2.trans g3))⟩
    exact ⟨y, w4, μ4, Qm, r2.mono (g3.trans g4).g, r4, m4, q4, hq.mono (g1.trans (g2.trans (g3.trans g4)))⟩
  · have e0 : k = false := Bool.eq_false_iff.mpr hk
    subst e0
    rw [if_neg Bool.false_ne_true] at q3 ⊢
    exact hq _ H3 _ μ3 (g1.trans (g2.trans g3)) (.bl false) m3 q3
theorem m_one {op} (ha : PEm X Wx a ma) : PEm X Wx (.BoolOp op [a] pos) ma := pe_one ha
theorem m_and {rest : List Expr} (ha : PEm X Wx a ma) (hb : PEm X Wx (.BoolOp .And (b :: rest) pos) mb) : PEm X Wx (.BoolOp .And (a :: b :: rest) pos) (eAnd ma mb) := PE.imp (pe_and ha hb) fun σ H Q h => by
  obtain ⟨ρ, μ, Qm, Em, rs, rm, h, hq, he⟩ := h
  refine ⟨ρ, μ, _, Em, rs, rm, h, fun v H1 x μ1 g1 r1 m1 ⟨k, ek, q1⟩ => ?_, he⟩
  subst ek
  cases r1
  refine ⟨k, rfl, ?_⟩
  by_cases hk : k = true
  · subst hk
    rw [if_pos rfl] at q1 ⊢
    exact ⟨ρ, μ1, Qm, Em, rs.mono g1.g, m1, q1, hq.mono g1, he.mono g1⟩
  · have e0 : k = false := Bool.eq_false_iff.mpr hk
    subst e0
    rw [if_neg Bool.false_ne_true] at q1 ⊢
    exact hq _ H1 _ μ1 g1 (.bl false) m1 q1
theorem m_or {rest : List Expr} (ha : PEm X Wx a ma) (hb : PEm X Wx (.BoolOp .Or (b :: rest) pos) mb) : PEm X Wx (.BoolOp .Or (a :: b :: rest) pos) (eOr ma mb) := PE.imp (pe_or ha hb) fun σ H Q h => by
  obtain ⟨ρ, μ, Qm, Em, rs, rm, h, hq, he⟩ := h
  refine ⟨ρ, μ, _, Em, rs, rm, h, fun v H1 x μ1 g1 r1 m1 ⟨k, ek, q1⟩ => ?_, he⟩
  subst ek
  cases r1
  refine ⟨k, rfl, ?_⟩
  by_cases hk : k = true
  · subst hk
    rw [if_pos rfl] at q1 ⊢
    exact hq _ H1 _ μ1 g1 (.bl true) m1 q1
  · have e0 : k = false := Bool.eq_false_iff.mpr hk
    subst e0
    rw [if_neg Bool.false_ne_true] at q1 ⊢
    exact ⟨ρ, μ1, Qm, Em, rs.mono g1.g, m1, q1, hq.mono g1, he.mono g1⟩
theorem m_not (ha : PEm X Wx a ma) : PEm X Wx (.UnaryOp .Not a pos) (eNot ma) := PE.imp (pe_not ha) fun σ H Q h => by
  obtain ⟨ρ, μ, Qm, Em, rs, rm, h, hq, he⟩ := h
  refine ⟨ρ, μ, _, Em, rs, rm, h, fun v H1 x μ1 g1 r1 m1 ⟨k, ek, q1⟩ => ?_, he⟩
  subst ek
  cases r1
  exact ⟨k, rfl, hq _ H1 _ μ1 g1 (.bl _) m1 q1⟩
theorem m_ite {mt : MT} (hc : PTm X Wx c mt) (ha : PEm X Wx a ma) (hb : PEm X Wx b mb) : PEm X Wx (.IfExp c a b pos) (eIte mt ma mb) := PE.imp (pe_ifExp hc ha hb) fun σ H Q h => by
  obtain ⟨ρ, μ, Qm, Em, rs, rm, h, hq, he⟩ := h
  refine ⟨ρ, μ, _, Em, rs, rm, h, fun k H1 μ1 g1 m1 q1 => ?_, he⟩
  by_cases hk : k = true
  · rw [if_pos hk] at q1 ⊢
    exact ⟨ρ, μ1, Qm, Em, rs.mono g1.g, m1, q1, hq.mono g1, he.mono g1⟩
  · rw [if_neg hk] at q1 ⊢
    exact ⟨ρ, μ1, Qm, Em, rs.mono g1.g, m1, q1, hq.mono g1, he.mono g1⟩
theorem ma_nil : PAm X Wx [] aNil := PA.imp pa_nil fun σ H Q h => by
  obtain ⟨ρ, μ, Qm, Em, rs, rm, h, hq, he⟩ := h
  exact hq [] H [] μ Gr.refl .nil rm h
theorem ma_cons (ha : PEm X Wx e ma) (hr : PAm X Wx es mt) (hs : starEach (e :: es) X.env = (false, eval e X.env) :: starEach es X.env := by rfl) : PAm X Wx (e :: es) (aCons ma mt) := PA.imp (pa_cons ha hr hs) fun σ H Q h => by
  obtain ⟨ρ, μ, Qm, Em, rs, rm, h, hq, he⟩ := h
  refine ⟨ρ, μ, _, Em, rs, rm, h, fun v H1 x μ1 g1 r1 m1 q1 => ?_, he⟩
  refine ⟨ρ, μ1, _, Em, rs.mono g1.g, m1, q1, fun vs H2 xs μ2 g2 r2 m2 q2 => ?_, he.mono g1⟩
  exact hq _ H2 _ μ2 (g1.trans g2) (.cons (r1.mono g2.g) r2) m2 q2
theorem m_tup {x1} (h : PAm X Wx es mt) : PEm X Wx (.Tuple es x1 pos) (eTup mt) := PE.imp (pe_tup h) fun σ H Q h => by
  obtain ⟨ρ, μ, Qm, Em, rs, rm, h, hq, he⟩ := h
  refine ⟨ρ, μ, _, Em, rs, rm, h, fun vs H1 xs μ1 g1 r1 m1 ⟨l, q1⟩ => ?_, he⟩
  refine ⟨by rw [r1.length]; exact l, fun p hp => ?_⟩
  have g : Gr X.K μ1 H1 μ1 (upd H1 p (.tup vs)) := Gr.new0 hp
  exact hq _ _ _ μ1 (g1.trans g) (.tup upd_same (r1.mono g.g)) (m1.new hp) q1
theorem m_lst (h : PAm X Wx es mt) : PEm X Wx (.List es pos) (eLst mt) := PE.imp (pe_lst h) fun σ H Q h => by
  obtain ⟨ρ, μ, Qm, Em, rs, rm, h, hq, he⟩ := h
  refine ⟨ρ, μ, _, Em, rs, rm, h, fun vs H1 xs μ1 g1 r1 m1 ⟨l, q1⟩ => ?_, he⟩
  refine ⟨by rw [r1.length]; exact l, fun p hp => ?_⟩
  have g : Gr X.K μ1 H1 (updM μ1 p (.lst xs)) (upd H1 p (.lst vs)) := Gr.new hp
  exact hq _ _ _ _ (g1.trans g) (.ref p) (m1.put (o := .lst xs) g.g ⟨vs, upd_same, r1.mono g.g⟩) (q1 p (m1.fresh hp))
/-- f(..), a def of the program -/
theorem m_call {S : MSp} {k : Nat} {f : Addr} {fd : FuncData} {ps : List Str} {x : Str} {p : Pos} (F : FnOk X.prog X.w X.K X.mg X.base (CX X.prog X.w) k f fd ps (spM X.K X.mg S)) (G : Good X Wx) (hr : Room k X.A) (hg : Gl X x) (hm : X.mg x = some (.ref f))
    (hk : PySem.W.keepIn X.K (.ref f) = true) (hb : Binds X.K fd ps []) (ha : PAm X Wx (e :: es) mt) (hd : (x == ("__debug__" : Str)) = false := by decide) (hs : starEach (e :: es) X.env = (false, eval e X.env) :: starEach es X.env := by rfl)
    (hpl : (backTo pos (starEach es X.env)).any (·.1) = false := by rfl) : PEm X Wx (.Call (.Name x p) (e :: es) [] pos) (eCall S mt) := PE.imp (pe_callS F hr hg hm hk hb (fun σ => passAt G.tk σ) ha hd hs hpl) fun σ H Q h => by
  obtain ⟨ρ, μ, Qm, Em, rs, rm, h, hq, he⟩ := h
  refine ⟨ρ, μ, _, Em, rs, rm, h, fun vs H1 xs μ1 g1 r1 m1 q1 => ?_, he⟩
  exact callM_sp r1 m1 q1 (hq.mono g1) (he.mono g1)
/-- a built-in, called by its name -/
theorem m_callB {r : OC} {x : Str} {p : Pos} {id : String} (hc : CallR X (.builtin id) (liftC X.K r)) (hg : Gl X x) (hm : X.mg x = none) (hv : bootBuiltins x = some (.builtin id)) (ha : PAm X Wx (e :: es) mt)
    (hn : x ≠ "__name__" := by decide) (hd : (x == ("__debug__" : Str)) = false := by decide) (hs : starEach (e :: es) X.env = (false, eval e X.env) :: starEach es X.env := by rfl)
    (hpl : (backTo pos (starEach es X.env)).any (·.1) = false := by rfl) : PEm X Wx (.Call (.Name x p) (e :: es) [] pos) (eCB r mt) := PE.imp (pe_callB hc hg hm hv ha hn hd hs hpl) fun σ H Q h => by
  obtain ⟨ρ, μ, Qm, Em, rs, rm, h, hq, he⟩ := h
  refine ⟨ρ, μ, _, Em, rs, rm, h, fun vs H1 xs μ1 g1 r1 m1 q1 => ?_, he⟩
  exact ⟨xs, μ1, Qm, r1, m1, q1, hq.mono g1⟩
theorem m_callTy {r : OC} {x : Str} {p : Pos} {id : String} (hc : CallR X (.type id) (liftC X.K r)) (hg : Gl X x) (hm : X.mg x = none) (hv : bootBuiltins x = some (.type id)) (ha : PAm X Wx (e :: es) mt)
    (hn : x ≠ "__name__" := by decide) (hd : (x == ("__debug__" : Str)) = false := by decide) (hs : starEach (e :: es) X.env = (false, eval e X.env) :: starEach es X.env := by rfl)
    (hpl : (backTo pos (starEach es X.env)).any (·.1) = false := by rfl) : PEm X Wx (.Call (.Name x p) (e :: es) [] pos) (eCB r mt) := PE.imp (pe_callTy hc hg hm hv ha hn hd hs hpl) fun σ H Q h => by
  obtain ⟨ρ, μ, Qm, Em, rs, rm, h, hq, he⟩ := h
  refine ⟨ρ, μ, _, Em, rs, rm, h, fun vs H1 xs μ1 g1 r1 m1 q1 => ?_, he⟩
  exact ⟨xs, μ1, Qm, r1, m1, q1, hq.mono g1⟩

/-! ### tests -/
theorem mt_val (h : PEm X Wx e ma) (he : ∀ whole, isTrue e X.env whole = (do let v ← whole; standAt e.pos; holding [v] (truthy v)) := by intro _; rfl) : PTm X Wx e (tVal ma) := PT.imp (pt_val h he) fun σ H Q h => by
  obtain ⟨ρ, μ, Qm, Em, rs, rm, h, hq, he⟩ := h
  refine ⟨ρ, μ, _, Em, rs, rm, h, fun v H1 x μ1 g1 r1 m1 ⟨k, ek, q1⟩ => ?_, he⟩
  subst ek
  cases r1
  exact ⟨k, rfl, hq k H1 μ1 g1 m1 q1⟩
theorem mt_cmp {op : CmpOp} (ho : OpR X (compareOp op) (lift2 X.K r)) (ha : PEm X Wx a ma) (hb : PEm X Wx b mb) (hm : behindInMarks op b = false) : PTm X Wx (.Compare a [op] [b] pos) (tVal (eOp r ma mb)) := PT.imp (pt_cmpR ho ha hb hm) fun σ H Q h => by
  obtain ⟨ρ, μ, Qm, Em, rs, rm, h, hq, he⟩ := h
  refine ⟨ρ, μ, _, Em, rs, rm, h, fun v H1 x μ1 g1 r1 m1 q1 => ?_, he⟩
  refine ⟨ρ, μ1, _, Em, rs.mono g1.g, m1, q1, fun u H2 y μ2 g2 r2 m2 q2 => ?_, he.mono g1⟩
  refine ⟨x, y, μ2, _, r1.mono g2.g, r2, m2, q2, fun z H3 wz μ3 g3 r3 m3 ⟨k, ek, q3⟩ => ?_⟩
  subst ek
  cases r3
  exact ⟨k, rfl, hq k H3 μ3 (g1.trans (g2.trans g3)) m3 q3⟩
theorem mw_and1 {t : MT} (ha : PTm X Wx a t) : PWm X Wx (.BoolOp .And [a] pos) t := pw_and1 ha
theorem mw_or1 {t : MT} (ha : PTm X Wx a t) : PWm X Wx (.BoolOp .Or [a] pos) t := pw_or1 ha
theorem mw_and {rest : List Expr} {t u : MT} (ha : PTm X Wx a t) (hb : PWm X Wx (.BoolOp .And (b :: rest) pos) u) : PWm X Wx (.BoolOp .And (a :: b :: rest) pos) (tAndM t u) := PW.imp (pw_and ha hb) fun σ H Q h => by
  obtain ⟨ρ, μ, Qm, Em, rs, rm, h, hq, he⟩ := h
  refine ⟨ρ, μ, _, Em, rs, rm, h, fun k H1 μ1 g1 m1 q1 => ?_, he⟩
  by_cases hk : k = true
  · rw [if_pos hk] at q1 ⊢
    exact ⟨ρ, μ1, Qm, Em, rs.mono g1.g, m1, q1, fun b H2 μ2 g2 => hq b H2 μ2 (g1.trans g2), he.mono g1⟩
  · rw [if_neg hk] at q1 ⊢
    exact hq _ H1 μ1 g1 m1 q1
theorem mw_or {rest : List Expr} {t u : MT} (ha : PTm X Wx a t) (hb : PWm X Wx (.BoolOp .Or (b :: rest) pos) u) : PWm X Wx (.BoolOp .Or (a :: b :: rest) pos) (tOrM t u) := PW.imp (pw_or ha hb) fun σ H Q h => by
  obtain ⟨ρ, μ, Qm, Em, rs, rm, h, hq, he⟩ := h
  refine ⟨ρ, μ, _, Em, rs, rm, h, fun k H1 μ1 g1 m1 q1 => ?_, he⟩
  by_cases hk : k = true
  · rw [if_pos hk] at q1 ⊢
    exact hq _ H1 μ1 g1 m1 q1
  · rw [if_neg hk] at q1 ⊢
    exact ⟨ρ, μ1, Qm, Em, rs.mono g1.g, m1, q1, fun b H2 μ2 g2 => hq b H2 μ2 (g1.trans g2), he.mono g1⟩
theorem mt_not {t : MT} (ha : PTm X Wx a t) : PTm X Wx (.UnaryOp .Not a pos) (tNotM t) := PT.imp (pt_not ha) fun σ H Q h => by
  obtain ⟨ρ, μ, Qm, Em, rs, rm, h, hq, he⟩ := h
  exact ⟨ρ, μ, _, Em, rs, rm, h, fun k H1 μ1 g1 m1 q1 => hq _ H1 μ1 g1 m1 q1, he⟩
end
end MP
set_option Elab.async false
set_option autoImplicit false
set_option linter.all false
set_option maxRecDepth 100000
namespace MP
open PySem PySem.Spec PyProof.Rows L2

/-! ### values as plain data -/
mutual
inductive Dat (μ : Mem) : W → PyData → Prop
  | non : Dat μ .non .none
  | bl (b : Bool) : Dat μ (.bl b) (.bool b)
  | int (i : Int) : Dat μ (.int i) (.int i)
  | str (x : Str) : Dat μ (.str x) (.str x)
  | tup {ws : List W} {ds : List PyData} : Dats μ ws ds → Dat μ (.tup ws) (.tuple ds)
  | lst {a : Addr} {ws : List W} {ds : List PyData} : μ a = some (.lst ws) → Dats μ ws ds → Dat μ (.ref a) (.list ds)
  | rol {a : Addr} {ws : List W} {ds : List PyData} : μ a = some (.rol ws) → Dats μ ws ds → Dat μ (.ref a) (.list ds)
inductive Dats (μ : Mem) : List W → List PyData → Prop
  | nil : Dats μ [] []
  | cons {w : W} {d : PyData} {ws : List W} {ds : List PyData} : Dat μ w d → Dats μ ws ds → Dats μ (w :: ws) (d :: ds)
end
mutual
theorem dp_of {K : PySem.W.Frag} {H : Hp} {μ : Mem} (m : RM K H μ) : ∀ {w : W} {d : PyData} {v : V}, Dat μ w d → RV K H v w → Dp K H v d
  | _, _, _, .non, .non => .non
  | _, _, _, .bl b, .bl _ => .bl b
  | _, _, _, .int b, .int _ => .int b
  | _, _, _, .str b, .str _ => .str b
  | _, _, _, .tup h, .tup s r => .tup (sqT_of s) (dps_of m h r)
  | _, _, _, .lst (a := a) e h, r => by
    obtain ⟨vs, q, rs⟩ := m a _ e
    cases r
    exact .lst (.inl (.inl q)) (dps_of m h rs)
  | _, _, _, .rol (a := a) e h, r => by
    obtain ⟨vs, q, rs⟩ := m a _ e
    cases r
    exact .lst (.inl q) (dps_of m h rs)
theorem dps_of {K : PySem.W.Frag} {H : Hp} {μ : Mem} (m : RM K H μ) : ∀ {ws : List W} {ds : List PyData} {vs : List V}, Dats μ ws ds → RVs K H vs ws → DpAll K H vs ds
  | _, _, _, .nil, .nil => .nil
  | _, _, _, .cons h t, .cons r rs => .cons (dp_of m h r) (dps_of m t rs)
end

/-! ### operators -/
def oAdd : O2
  | .int i, .int j, μ, Q => Q (.int (i + j)) μ
  | .tup xs, .tup ys, μ, Q => xs.length + ys.length ≤ sizeLine ∧ Q (.tup (xs ++ ys)) μ
  | .str a, .str b, μ, Q => a.length + b.length ≤ sizeLine ∧ Q (.str (a ++ b)) μ
  | .ref a, .ref b, μ, Q => ∃ xs ys, μ a = some (.lst xs) ∧ μ b = some (.lst ys) ∧ xs.length + ys.length ≤ sizeLine ∧ ∀ p, μ p = none → Q (.ref p) (updM μ p (.lst (xs ++ ys)))
  | _, _, _, _ => False
def oSub : O2
  | .int i, .int j, μ, Q => Q (.int (i - j)) μ
  | _, _, _, _ => False
def oMul : O2
  | .int i, .int j, μ, Q => (CMul i j ∨ CMulW i j) ∧ Q (.int (i * j)) μ
  | .ref a, .int k, μ, Q => ∃ xs, μ a = some (.lst xs) ∧ -(2 ^ 63) ≤ k ∧ k < 2 ^ 63 ∧ xs.length * k.toNat ≤ sizeLine ∧ ∀ p, μ p = none → Q (.ref p) (updM μ p (.lst (List.replicate k.toNat xs).flatten))
  | _, _, _, _ => False
def oFdiv : O2
  | .int i, .int j, μ, Q => CDivN i j ∧ Q (.int (i.fdiv j)) μ
  | _, _, _, _ => False
def oMod : O2
  | .int i, .int j, μ, Q => j ≠ 0 ∧ Q (.int (i.fmod j)) μ
  | _, _, _, _ => False
def oPow : O2
  | .int i, .int j, μ, Q => CPow i j ∧ Q (.int (i ^ j.toNat)) μ
  | _, _, _, _ => False
def oNeg : O1
  | .int i, μ, Q => Q (.int (-i)) μ
  | _, _, _ => False
def oEq : O2 := fun x y μ Q => ∃ d e, Dat μ x d ∧ Dat μ y e ∧ SeqAt.shaped d = true ∧ SeqAt.shaped e = true ∧ Q (.bl (PyData.eqv d e)) μ
def oNe : O2 := fun x y μ Q => ∃ d e, Dat μ x d ∧ Dat μ y e ∧ SeqAt.shaped d = true ∧ SeqAt.shaped e = true ∧ Q (.bl (!PyData.eqv d e)) μ
def oCmpI (p : Int → Int → Bool) : O2
  | .int i, .int j, μ, Q => Q (.bl (p i j)) μ
  | _, _, _, _ => False
def oLe := oCmpI fun i j => decide (i ≤ j)
def oGt := oCmpI fun i j => decide (j < i)
def oGe := oCmpI fun i j => decide (j ≤ i)
/-- x in a list or a tuple -/
def oIn (neg : Bool) : O2 := fun x y μ Q => ∃ d ds, Dat μ x d ∧ (Dat μ y (.list ds) ∨ Dat μ y (.tuple ds)) ∧ SeqAt.shaped d = true ∧ SeqAt.shaped (.list ds) = true ∧ Q (.bl (if neg = true then !ds.any fun z => PyData.eqv z d else ds.any fun z => PyData.eqv z d)) μ
def oIs (neg : Bool) : O2
  | x, .non, μ, Q => (match x with | .non => Q (.bl (!neg)) μ | _ => Q (.bl neg) μ)
  | .bl a, .bl b, μ, Q => Q (.bl (if neg = true then !decide (a = b) else decide (a = b))) μ
  | _, _, _, _ => False
/-- xs[i] of a tuple, a list -/
def oIx : O2
  | .tup xs, .int i, μ, Q => ∃ w, atI xs i = some w ∧ Q w μ
  | .rl xs, .int i, μ, Q => ∃ w, atI xs i = some w ∧ Q w μ
  | .ref a, .int i, μ, Q => ∃ xs w, (μ a = some (.lst xs) ∨ μ a = some (.rol xs)) ∧ atI xs i = some w ∧ Q w μ
  | _, _, _, _ => False

section
variable {X : Cx}
theorem o_add : OpR X (binaryOp .Add) (lift2 X.K oAdd) := by
  intro pins s σ H x y v u Q I rx ry h
  obtain ⟨wx, wy, μ, Qm, r1, r2, m, h, hq⟩ := h
  unfold oAdd at h
  split at h
  · cases r1; cases r2
    exact op_add pins s σ H _ _ v u Q I rx ry ⟨_, _, rfl, rfl, hq _ H _ μ Gr.refl (.int _) m h⟩
  · cases r1 with
    | tup s1 t1 =>
      cases r2 with
      | tup s2 t2 =>
        rename_i xs ys a vs b us
        obtain ⟨l, h⟩ := h
        refine op_catA pins s σ H _ _ v u Q I rx ry ⟨_, _, _, _, rfl, rfl, sqT_of s1, sqT_of s2, by rw [t1.length, t2.length]; exact l, fun e => ?_, fun _ e => ?_, fun _ _ p hp => ?_⟩
        · subst e
          cases t1
          exact hq _ H _ μ Gr.refl (.tup s2 t2) m h
        · subst e
          cases t2
          rw [List.append_nil] at h
          exact hq _ H _ μ Gr.refl (.tup s1 t1) m h
        · have g := grow_new (K := X.K) (o := .tup (us ++ vs)) hp
          first
            | exact hq _ _ _ μ g (.tup upd_same ((t1.append t2).mono g)) (m.new hp) h
            | exact hq _ _ _ μ (Gr.new0 hp) (.tup upd_same ((t1.append t2).mono (grow_new hp))) (m.new hp) h
  · cases r1; cases r2
    obtain ⟨l, h⟩ := h
    exact op_add_str pins s σ H _ _ v u Q I rx ry ⟨_, _, rfl, rfl, l, hq _ H _ μ Gr.refl (.str _) m h⟩
  · cases r1; cases r2
    obtain ⟨xs, ys, e1, e2, l, h⟩ := h
    obtain ⟨vs, q1, t1⟩ := m _ _ e1
    obtain ⟨us, q2, t2⟩ := m _ _ e2
    refine op_cat pins s σ H _ _ v u Q I rx ry ⟨_, _, vs, us, rfl, rfl, q1, q2, by rw [t1.length, t2.length]; exact l, fun p hp => ?_⟩
    exact hq _ _ _ _ (Gr.new hp) (.ref p) (m.put (o := .lst (xs ++ ys)) (grow_new hp) ⟨_, upd_same, (t1.append t2).mono (grow_new hp)⟩) (h p (m.fresh hp))
  · exact h.elim
theorem o_sub : OpR X (binaryOp .Sub) (lift2 X.K oSub) := by
  intro pins s σ H x y v u Q I rx ry h
  obtain ⟨wx, wy, μ, Qm, r1, r2, m, h, hq⟩ := h
  unfold oSub at h
  split at h
  · cases r1; cases r2
    exact op_sub pins s σ H _ _ v u Q I rx ry ⟨_, _, rfl, rfl, hq _ H _ μ Gr.refl (.int _) m h⟩
  · exact h.elim
theorem o_mul : OpR X (binaryOp .Mult) (lift2 X.K oMul) := by
  intro pins s σ H x y v u Q I rx ry h
  obtain ⟨wx, wy, μ, Qm, r1, r2, m, h, hq⟩ := h
  unfold oMul at h
  split at h
  · cases r1; cases r2
    obtain ⟨hc | hc, h⟩ := h
    · exact op_mul pins s σ H _ _ v u Q I rx ry ⟨_, _, rfl, rfl, hc, hq _ H _ μ Gr.refl (.int _) m h⟩
    · exact op_mulW pins s σ H _ _ v u Q I rx ry ⟨_, _, rfl, rfl, hc, hq _ H _ μ Gr.refl (.int _) m h⟩
  · cases r1; cases r2
    obtain ⟨xs, e1, l1, l2, l3, h⟩ := h
    obtain ⟨vs, q1, t1⟩ := m _ _ e1
    refine op_rep pins s σ H _ _ v u Q I rx ry ⟨_, _, vs, rfl, rfl, q1, l1, l2, by rw [t1.length]; exact l3, fun p hp => ?_⟩
    refine hq _ _ _ _ (Gr.new hp) (.ref p) (m.put (o := .lst _) (grow_new hp) ⟨_, upd_same, RVs.mono (grow_new hp) ?_⟩) (h p (m.fresh hp))
    generalize Int.toNat _ = n
    induction n with
    | zero => exact .nil
    | succ n ih =>
      rw [List.replicate_succ, List.replicate_succ, List.flatten_cons, List.flatten_cons]
      exact t1.append ih
  · exact h.elim
theorem o_fdiv : OpR X (binaryOp .FloorDiv) (lift2 X.K oFdiv) := by
  intro pins s σ H x y v u Q I rx ry h
  obtain ⟨wx, wy, μ, Qm, r1, r2, m, h, hq⟩ := h
  unfold oFdiv at h
  split at h
  · cases r1; cases r2
    exact op_fdivN pins s σ H _ _ v u Q I rx ry ⟨_, _, rfl, rfl, h.1, hq _ H _ μ Gr.refl (.int _) m h.2⟩
  · exact h.elim
theorem o_mod : OpR X (binaryOp .Mod) (lift2 X.K oMod) := by
  intro pins s σ H x y v u Q I rx ry h
  obtain ⟨wx, wy, μ, Qm, r1, r2, m, h, hq⟩ := h
  unfold oMod at h
  split at h
  · cases r1; cases r2
    exact op_modN pins s σ H _ _ v u Q I rx ry ⟨_, _, rfl, rfl, h.1, hq _ H _ μ Gr.refl (.int _) m h.2⟩
  · exact h.elim
theorem o_pow : OpR X (binaryOp .Pow) (lift2 X.K oPow) := by
  intro pins s σ H x y v u Q I rx ry h
  obtain ⟨wx, wy, μ, Qm, r1, r2, m, h, hq⟩ := h
  unfold oPow at h
  split at h
  · cases r1; cases r2
    exact op_pow pins s σ H _ _ v u Q I rx ry ⟨_, _, rfl, rfl, h.1, hq _ H _ μ Gr.refl (.int _) m h.2⟩
  · exact h.elim
theorem o_neg : UnR X (unaryOp .USub) (lift1 X.K oNeg) := by
  intro pins s σ H x v Q I rx h
  obtain ⟨wx, μ, Qm, r1, m, h, hq⟩ := h
  unfold oNeg at h
  split at h
  · cases r1
    exact un_neg pins s σ H _ v Q I rx ⟨_, rfl, hq _ H _ μ Gr.refl (.int _) m h⟩
  · exact h.elim
theorem o_eq (hu : X.A.units + 64 < cLine) : OpR X (compareOp .Eq) (lift2 X.K oEq) := by
  intro pins s σ H x y v u Q I rx ry h
  obtain ⟨wx, wy, μ, Qm, r1, r2, m, ⟨d, e, h1, h2, s1, s2, h⟩, hq⟩ := h
  exact op_eqD hu pins s σ H x y v u Q I rx ry ⟨d, e, dp_of m h1 r1, dp_of m h2 r2, s1, s2, hq _ H _ μ Gr.refl (.bl _) m h⟩
theorem o_ne (hu : X.A.units + 64 < cLine) : OpR X (compareOp .NotEq) (lift2 X.K oNe) := by
  intro pins s σ H x y v u Q I rx ry h
  obtain ⟨wx, wy, μ, Qm, r1, r2, m, ⟨d, e, h1, h2, s1, s2, h⟩, hq⟩ := h
  exact op_neD hu pins s σ H x y v u Q I rx ry ⟨d, e, dp_of m h1 r1, dp_of m h2 r2, s1, s2, hq _ H _ μ Gr.refl (.bl _) m h⟩
theorem o_cmpI {op : CmpOp} {p : Int → Int → Bool} (ho : OpR X (compareOp op) (rI0 fun i j => .bl (p i j))) : OpR X (compareOp op) (lift2 X.K (oCmpI p)) := by
  intro pins s σ H x y v u Q I rx ry h
  obtain ⟨wx, wy, μ, Qm, r1, r2, m, h, hq⟩ := h
  unfold oCmpI at h
  split at h
  · cases r1; cases r2
    exact ho pins s σ H _ _ v u Q I rx ry ⟨_, _, rfl, rfl, hq _ H _ μ Gr.refl (.bl _) m h⟩
  · exact h.elim
theorem o_le : OpR X (compareOp .LtE) (lift2 X.K oLe) := o_cmpI op_le
theorem o_gt : OpR X (compareOp .Gt) (lift2 X.K oGt) := o_cmpI op_gt
theorem o_ge : OpR X (compareOp .GtE) (lift2 X.K oGe) := o_cmpI op_ge
theorem o_in (hu : X.A.units + 65 < cLine) : OpR X (compareOp .In) (lift2 X.K (oIn false)) := by
  intro pins s σ H x y v u Q I rx ry h
  obtain ⟨wx, wy, μ, Qm, r1, r2, m, ⟨d, ds, h1, h2, s1, s2, h⟩, hq⟩ := h
  rw [if_neg Bool.false_ne_true] at h
  rcases h2 with h2 | h2
  · exact op_inD hu pins s σ H x y v u Q I rx ry ⟨d, ds, dp_of m h1 r1, dp_of m h2 r2, s1, s2, hq _ H _ μ Gr.refl (.bl _) m h⟩
  · obtain ⟨as, q1⟩ := Dp.reads I d x v (dp_of m h1 r1) rx
    obtain ⟨bs, q2⟩ := Dp.reads I (.tuple ds) y u (dp_of m h2 r2) ry
    exact SeqAt.in_tuple_reads q2 q1 (SeqAt.canLay_of_shaped s2) (SeqAt.canLay_of_shaped s1) (room_in_shaped s1 hu) ⟨.bl _, H, I, rfl, hq _ H _ μ Gr.refl (.bl _) m h⟩
theorem o_notin (hu : X.A.units + 65 < cLine) : OpR X (compareOp .NotIn) (lift2 X.K (oIn true)) := by
  intro pins s σ H x y v u Q I rx ry h
  obtain ⟨wx, wy, μ, Qm, r1, r2, m, ⟨d, ds, h1, h2, s1, s2, h⟩, hq⟩ := h
  rw [if_pos rfl] at h
  rcases h2 with h2 | h2
  · exact op_notInD hu pins s σ H x y v u Q I rx ry ⟨d, ds, dp_of m h1 r1, dp_of m h2 r2, s1, s2, hq _ H _ μ Gr.refl (.bl _) m h⟩
  · obtain ⟨as, q1⟩ := Dp.reads I d x v (dp_of m h1 r1) rx
    obtain ⟨bs, q2⟩ := Dp.reads I (.tuple ds) y u (dp_of m h2 r2) ry
    exact SeqAt.notIn_tuple_reads q2 q1 (SeqAt.canLay_of_shaped s2) (SeqAt.canLay_of_shaped s1) (room_in_shaped s1 hu) ⟨.bl _, H, I, rfl, hq _ H _ μ Gr.refl (.bl _) m h⟩
theorem o_is : OpR X (compareOp .Is) (lift2 X.K (oIs false)) := by
  intro pins s σ H x y v u Q I rx ry h
  obtain ⟨wx, wy, μ, Qm, r1, r2, m, h, hq⟩ := h
  unfold oIs at h
  split at h
  · cases r2
    refine op_isN pins s σ H _ _ v u Q I rx ry ⟨rfl, ?_⟩
    split at h
    · cases r1
      exact hq _ H _ μ Gr.refl (.bl _) m h
    · have hn : x ≠ .non := fun e => by subst e; cases r1; rename_i hh; exact hh rfl
      rw [decide_eq_false hn]
      exact hq _ H _ μ Gr.refl (.bl _) m h
  · cases r1; cases r2
    rw [if_neg Bool.false_ne_true] at h
    exact op_is_bl pins s σ H _ _ v u Q I rx ry ⟨_, _, rfl, rfl, hq _ H _ μ Gr.refl (.bl _) m h⟩
  · exact h.elim
theorem o_isnot : OpR X (compareOp .IsNot) (lift2 X.K (oIs true)) := by
  intro pins s σ H x y v u Q I rx ry h
  obtain ⟨wx, wy, μ, Qm, r1, r2, m, h, hq⟩ := h
  unfold oIs at h
  split at h
  · cases r2
    refine op_notN pins s σ H _ _ v u Q I rx ry ⟨rfl, ?_⟩
    split at h
    · cases r1
      exact hq _ H _ μ Gr.refl (.bl _) m h
    · have hn : x ≠ .non := fun e => by subst e; cases r1; rename_i hh; exact hh rfl
      rw [decide_eq_false hn]
      exact hq _ H _ μ Gr.refl (.bl _) m h
  · cases r1; cases r2
    rw [if_pos rfl] at h
    exact op_isnot_bl pins s σ H _ _ v u Q I rx ry ⟨_, _, rfl, rfl, hq _ H _ μ Gr.refl (.bl _) m h⟩
  · exact h.elim
theorem atI_rel {K : PySem.W.Frag} {H : Hp} {vs : List V} {ws : List W} {i : Int} {w : W} (r : RVs K H vs ws) (h : atI ws i = some w) : ∃ v, atI vs i = some v ∧ RV K H v w := by
  unfold atI at h ⊢
  rw [r.length]
  cases e : ixN ws.length i with
  | none => rw [e] at h; cases h
  | some j =>
    rw [e] at h
    exact r.get h
theorem o_ix : IxR X (lift2 X.K oIx) := by
  intro val sl pins s σ H x y v u Q I rx ry h hs
  obtain ⟨wx, wy, μ, Qm, r1, r2, m, h, hq⟩ := h
  unfold oIx at h
  split at h
  · cases r1 with
    | tup s1 t1 =>
      cases r2
      obtain ⟨w, e, h⟩ := h
      obtain ⟨v', e', rv⟩ := atI_rel t1 e
      exact ix_tup val sl pins s σ H _ _ v u Q I rx ry ⟨_, _, _, v', rfl, rfl, sqT_of s1, e', hq _ H _ μ Gr.refl rv m h⟩ hs
  · cases r1 with
    | rl s1 t1 =>
      cases r2
      obtain ⟨w, e, h⟩ := h
      obtain ⟨v', e', rv⟩ := atI_rel t1 e
      exact ix_list val sl pins s σ H _ _ v u Q I rx ry ⟨_, _, _, v', rfl, rfl, s1.sq, e', hq _ H _ μ Gr.refl rv m h⟩ hs
  · cases r1; cases r2
    obtain ⟨xs, w, e0, e, h⟩ := h
    rcases e0 with e0 | e0
    · obtain ⟨vs, q1, t1⟩ := m _ _ e0
      obtain ⟨v', e', rv⟩ := atI_rel t1 e
      exact ix_list val sl pins s σ H _ _ v u Q I rx ry ⟨_, _, _, v', rfl, rfl, .inl (.inl q1), e', hq _ H _ μ Gr.refl rv m h⟩ hs
    · obtain ⟨vs, q1, t1⟩ := m _ _ e0
      obtain ⟨v', e', rv⟩ := atI_rel t1 e
      exact ix_list val sl pins s σ H _ _ v u Q I rx ry ⟨_, _, _, v', rfl, rfl, .inl q1, e', hq _ H _ μ Gr.refl rv m h⟩ hs
  · exact h.elim
end
end MP
set_option Elab.async false
set_option autoImplicit false
set_option linter.all false
set_option maxRecDepth 100000
namespace MP
open PySem PySem.Spec PyProof.Rows L2

/-! ### built-ins by name -/
def oLen : OC
  | [.tup xs], μ, Q => Q (.int xs.length) μ
  | [.rl xs], μ, Q => Q (.int xs.length) μ
  | [.str z], μ, Q => z.length ≤ sizeLine ∧ Q (.int z.length) μ
  | [.ref a], μ, Q => (∃ xs, (μ a = some (.lst xs) ∨ μ a = some (.rol xs)) ∧ Q (.int xs.length) μ) ∨ ∃ kvs, μ a = some (.dk kvs) ∧ Q (.int kvs.length) μ
  | _, _, _ => False
def oTupleOf : OC
  | [.tup xs], μ, Q => Q (.tup xs) μ
  | [.ref a], μ, Q => ∃ xs, (μ a = some (.lst xs) ∨ μ a = some (.rol xs)) ∧ Q (.tup xs) μ
  | _, _, _ => False
def oListOf : OC
  | [.tup xs], μ, Q => ∀ p, μ p = none → Q (.ref p) (updM μ p (.lst xs))
  | [.ref a], μ, Q => ∃ xs, (μ a = some (.lst xs) ∨ μ a = some (.rol xs)) ∧ ∀ p, μ p = none → Q (.ref p) (updM μ p (.lst xs))
  | _, _, _ => False
def oIntOf : OC
  | [.int i], μ, Q => Q (.int i) μ
  | [.bl k], μ, Q => Q (.int (if k then 1 else 0)) μ
  | _, _, _ => False
def oAbs : OC
  | [.int i], μ, Q => Q (.int (if i < 0 then -i else i)) μ
  | _, _, _ => False
def oMax2 : OC
  | [.int i, .int j], μ, Q => Q (.int (if j > i then j else i)) μ
  | _, _, _ => False
def oMin2 : OC
  | [.int i, .int j], μ, Q => Q (.int (if j < i then j else i)) μ
  | _, _, _ => False
/-- what a list (or a tuple) holds -/
def itemsOf (μ : Mem) : W → Option (List W)
  | .tup xs => some xs
  | .ref a => (match μ a with
    | some (.lst xs) => some xs
    | some (.rol xs) => some xs
    | _ => none)
  | _ => none
/-- a built-in of one list -/
def oL (f : List W → MQ → Mem → Prop) : OC
  | [.ref a], μ, Q => ∃ xs, (μ a = some (.lst xs) ∨ μ a = some (.rol xs)) ∧ f xs Q μ
  | _, _, _ => False
def fSum : List W → MQ → Mem → Prop := fun xs Q μ => ∃ ns : List Int, xs = ns.map W.int ∧ Q (.int ns.sum) μ
def fAll : List W → MQ → Mem → Prop := fun xs Q μ => ∃ ns : List Bool, xs = ns.map W.bl ∧ Q (.bl (ns.all id)) μ
def fAny : List W → MQ → Mem → Prop := fun xs Q μ => ∃ ns : List Bool, xs = ns.map W.bl ∧ Q (.bl (ns.any id)) μ
def fMax : List W → MQ → Mem → Prop := fun xs Q μ => ∃ ns : List Int, xs = ns.map W.int ∧ 0 < ns.length ∧ ∀ m, m ∈ ns → (∀ y, y ∈ ns → y ≤ m) → Q (.int m) μ
def fMin : List W → MQ → Mem → Prop := fun xs Q μ => ∃ ns : List Int, xs = ns.map W.int ∧ 0 < ns.length ∧ ∀ m, m ∈ ns → (∀ y, y ∈ ns → m ≤ y) → Q (.int m) μ
def fTuple : List W → MQ → Mem → Prop := fun xs Q μ => Q (.tup xs) μ
/-- the type's name -/
def tyOf (μ : Mem) : W → Option String
  | .non => some "NoneType"
  | .bl _ => some "bool"
  | .int _ => some "int"
  | .str _ => some "str"
  | .tup _ => some "tuple"
  | .ref a => (match μ a with
    | some (.lst _) => some "list"
    | some (.rol _) => some "list"
    | some (.dk _) => some "dict"
    | some (.dt _) => some "dict"
    | _ => none)
  | .ty _ => none
  | .rl _ => none
def subTy (a b : String) : Option Bool := kitB a b
/-- isinstance(x, T), T a built-in class -/
def oIsi (T : String) : O1 := fun x μ Q => ∃ t b, tyOf μ x = some t ∧ subTy t T = some b ∧ Q (.bl b) μ

section
variable {X : Cx}
theorem seq_of {K : PySem.W.Frag} {H : Hp} {μ : Mem} {a : Addr} {xs : List W} (m : RM K H μ) (e : μ a = some (.lst xs) ∨ μ a = some (.rol xs)) : ∃ vs, SqL K H a vs ∧ RVs K H vs xs := by
  rcases e with e | e
  · obtain ⟨vs, q, t⟩ := m _ _ e
    exact ⟨vs, .inl (.inl q), t⟩
  · obtain ⟨vs, q, t⟩ := m _ _ e
    exact ⟨vs, .inl q, t⟩
theorem c_len : CallR X (.builtin "len") (liftC X.K oLen) := by
  intro pins s σ H vs us Q I rx h
  obtain ⟨xs, μ, Qm, r, m, h, hq⟩ := h
  unfold oLen at h
  split at h
  · obtain ⟨v0, rfl, r0⟩ := r.one
    cases r0 with
    | tup s1 t1 =>
      refine call_len_seq pins s σ H _ us Q I rx ⟨_, _, rfl, .inr (sqT_of s1), ?_⟩
      rw [t1.length]
      exact hq _ H _ μ Gr.refl (.int _) m h
  · obtain ⟨v0, rfl, r0⟩ := r.one
    cases r0 with
    | rl s1 t1 =>
      refine call_len_seq pins s σ H _ us Q I rx ⟨_, _, rfl, .inl s1.sq, ?_⟩
      rw [t1.length]
      exact hq _ H _ μ Gr.refl (.int _) m h
  · obtain ⟨v0, rfl, r0⟩ := r.one
    cases r0
    exact call_len_str pins s σ H _ us Q I rx ⟨_, rfl, h.1, hq _ H _ μ Gr.refl (.int _) m h.2⟩
  · obtain ⟨v0, rfl, r0⟩ := r.one
    cases r0
    rcases h with ⟨xs, e, h⟩ | ⟨kvs, e, h⟩
    · obtain ⟨ws, q, t⟩ := seq_of m e
      refine call_len_seq pins s σ H _ us Q I rx ⟨_, _, rfl, .inl q, ?_⟩
      rw [t.length]
      exact hq _ H _ μ Gr.refl (.int _) m h
    · obtain ⟨gs, q, t⟩ := m _ _ e
      refine call_lenD pins s σ H _ us Q I rx ⟨_, _, rfl, q, ?_⟩
      rw [t.length]
      exact hq _ H _ μ Gr.refl (.int _) m h
  · exact h.elim
theorem c_tupleOf : CallR X (.type "tuple") (liftC X.K oTupleOf) := by
  intro pins s σ H vs us Q I rx h
  obtain ⟨xs, μ, Qm, r, m, h, hq⟩ := h
  unfold oTupleOf at h
  split at h
  · obtain ⟨v0, rfl, r0⟩ := r.one
    cases r0 with
    | tup s1 t1 => exact call_tuple_of pins s σ H _ us Q I rx ⟨_, _, rfl, .inr ⟨sqT_of s1, hq _ H _ μ Gr.refl (.tup s1 t1) m h⟩⟩
  · obtain ⟨v0, rfl, r0⟩ := r.one
    cases r0
    obtain ⟨xs, e, h⟩ := h
    obtain ⟨ws, q, t⟩ := seq_of m e
    refine call_tuple_of pins s σ H _ us Q I rx ⟨_, _, rfl, .inl ⟨q, fun p hp => ?_⟩⟩
    exact hq _ _ _ μ (Gr.new0 hp) (.tup upd_same (t.mono (grow_new hp))) (m.new hp) h
  · exact h.elim
theorem c_listOf : CallR X (.type "list") (liftC X.K oListOf) := by
  intro pins s σ H vs us Q I rx h
  obtain ⟨xs, μ, Qm, r, m, h, hq⟩ := h
  unfold oListOf at h
  split at h
  · obtain ⟨v0, rfl, r0⟩ := r.one
    cases r0 with
    | tup s1 t1 =>
      refine call_list_of pins s σ H _ us Q I rx ⟨_, _, rfl, .inr (sqT_of s1), fun p hp => ?_⟩
      exact hq _ _ _ _ (Gr.new hp) (.ref p) (m.put (o := .lst _) (grow_new hp) ⟨_, upd_same, t1.mono (grow_new hp)⟩) (h p (m.fresh hp))
  · obtain ⟨v0, rfl, r0⟩ := r.one
    cases r0
    obtain ⟨xs, e, h⟩ := h
    obtain ⟨ws, q, t⟩ := seq_of m e
    refine call_list_of pins s σ H _ us Q I rx ⟨_, _, rfl, .inl q, fun p hp => ?_⟩
    exact hq _ _ _ _ (Gr.new hp) (.ref p) (m.put (o := .lst _) (grow_new hp) ⟨_, upd_same, t.mono (grow_new hp)⟩) (h p (m.fresh hp))
  · exact h.elim
theorem c_intOf : CallR X (.type "int") (liftC X.K oIntOf) := by
  intro pins s σ H vs us Q I rx h
  obtain ⟨xs, μ, Qm, r, m, h, hq⟩ := h
  unfold oIntOf at h
  split at h
  · obtain ⟨v0, rfl, r0⟩ := r.one
    cases r0
    exact call_int1 pins s σ H _ us Q I rx (.inl ⟨_, rfl, hq _ H _ μ Gr.refl (.int _) m h⟩)
  · obtain ⟨v0, rfl, r0⟩ := r.one
    cases r0
    exact call_int1 pins s σ H _ us Q I rx (.inr ⟨_, rfl, hq _ H _ μ Gr.refl (.int _) m h⟩)
  · exact h.elim
theorem c_abs : CallR X (.builtin "abs") (liftC X.K oAbs) := by
  intro pins s σ H vs us Q I rx h
  obtain ⟨xs, μ, Qm, r, m, h, hq⟩ := h
  unfold oAbs at h
  split at h
  · obtain ⟨v0, rfl, r0⟩ := r.one
    cases r0
    exact call_abs pins s σ H _ us Q I rx ⟨_, rfl, hq _ H _ μ Gr.refl (.int _) m h⟩
  · exact h.elim
theorem c_max2 (hc : X.calm = true) : CallR X (.builtin "max") (liftC X.K oMax2) := by
  intro pins s σ H vs us Q I rx h
  obtain ⟨xs, μ, Qm, r, m, h, hq⟩ := h
  unfold oMax2 at h
  split at h
  · obtain ⟨v0, v1, rfl, r0, r1⟩ := r.two
    cases r0; cases r1
    exact call_max2 hc pins s σ H _ us Q I rx ⟨_, _, rfl, hq _ H _ μ Gr.refl (.int _) m h⟩
  · exact h.elim
theorem c_min2 (hc : X.calm = true) : CallR X (.builtin "min") (liftC X.K oMin2) := by
  intro pins s σ H vs us Q I rx h
  obtain ⟨xs, μ, Qm, r, m, h, hq⟩ := h
  unfold oMin2 at h
  split at h
  · obtain ⟨v0, v1, rfl, r0, r1⟩ := r.two
    cases r0; cases r1
    exact call_min2 hc pins s σ H _ us Q I rx ⟨_, _, rfl, hq _ H _ μ Gr.refl (.int _) m h⟩
  · exact h.elim
theorem c_sum (hc : X.calm = true) : CallR X (.builtin "sum") (liftC X.K (oL fSum)) := by
  intro pins s σ H vs us Q I rx h
  obtain ⟨xs, μ, Qm, r, m, h, hq⟩ := h
  unfold oL at h
  split at h
  · obtain ⟨v0, rfl, r0⟩ := r.one
    cases r0
    obtain ⟨xs, e, ns, rfl, h⟩ := h
    obtain ⟨ws, q, t⟩ := seq_of m e
    have e2 := t.of_ints
    subst e2
    exact cr_sum hc pins s σ H _ us Q I rx ⟨_, _, rfl, q, hq _ H _ μ Gr.refl (.int _) m h⟩
  · exact h.elim
theorem c_all (hc : X.calm = true) : CallR X (.builtin "all") (liftC X.K (oL fAll)) := by
  intro pins s σ H vs us Q I rx h
  obtain ⟨xs, μ, Qm, r, m, h, hq⟩ := h
  unfold oL at h
  split at h
  · obtain ⟨v0, rfl, r0⟩ := r.one
    cases r0
    obtain ⟨xs, e, ns, rfl, h⟩ := h
    obtain ⟨ws, q, t⟩ := seq_of m e
    have e2 := t.of_bls
    subst e2
    exact cr_all hc pins s σ H _ us Q I rx ⟨_, _, rfl, q, hq _ H _ μ Gr.refl (.bl _) m h⟩
  · exact h.elim
theorem c_any (hc : X.calm = true) : CallR X (.builtin "any") (liftC X.K (oL fAny)) := by
  intro pins s σ H vs us Q I rx h
  obtain ⟨xs, μ, Qm, r, m, h, hq⟩ := h
  unfold oL at h
  split at h
  · obtain ⟨v0, rfl, r0⟩ := r.one
    cases r0
    obtain ⟨xs, e, ns, rfl, h⟩ := h
    obtain ⟨ws, q, t⟩ := seq_of m e
    have e2 := t.of_bls
    subst e2
    exact cr_any hc pins s σ H _ us Q I rx ⟨_, _, rfl, q, hq _ H _ μ Gr.refl (.bl _) m h⟩
  · exact h.elim
theorem c_max (hc : X.calm = true) : CallR X (.builtin "max") (liftC X.K (oL fMax)) := by
  intro pins s σ H vs us Q I rx h
  obtain ⟨xs, μ, Qm, r, m, h, hq⟩ := h
  unfold oL at h
  split at h
  · obtain ⟨v0, rfl, r0⟩ := r.one
    cases r0
    obtain ⟨xs, e, ns, rfl, l, h⟩ := h
    obtain ⟨ws, q, t⟩ := seq_of m e
    have e2 := t.of_ints
    subst e2
    exact cr_max hc pins s σ H _ us Q I rx ⟨_, _, rfl, q, l, fun z h1 h2 => hq _ H _ μ Gr.refl (.int _) m (h z h1 h2)⟩
  · exact h.elim
theorem c_min (hc : X.calm = true) : CallR X (.builtin "min") (liftC X.K (oL fMin)) := by
  intro pins s σ H vs us Q I rx h
  obtain ⟨xs, μ, Qm, r, m, h, hq⟩ := h
  unfold oL at h
  split at h
  · obtain ⟨v0, rfl, r0⟩ := r.one
    cases r0
    obtain ⟨xs, e, ns, rfl, l, h⟩ := h
    obtain ⟨ws, q, t⟩ := seq_of m e
    have e2 := t.of_ints
    subst e2
    exact cr_min hc pins s σ H _ us Q I rx ⟨_, _, rfl, q, l, fun z h1 h2 => hq _ H _ μ Gr.refl (.int _) m (h z h1 h2)⟩
  · exact h.elim
theorem tyx_of {K : PySem.W.Frag} {H : Hp} {μ : Mem} {v : V} {w : W} {t : String} (m : RM K H μ) (r : RV K H v w) (e : tyOf μ w = some t) : TyX K H v (.type t) := by
  cases r with
  | non => cases e; exact .base .non
  | bl b => cases e; exact .base (.bl b)
  | int b => cases e; exact .base (.int b)
  | str b => cases e; exact .base (.str b)
  | tup s1 t1 =>
    cases e
    exact .base (.tup s1)
  | ty n => cases e
  | rl _ _ => cases e
  | ref a =>
    unfold tyOf at e
    simp only at e
    split at e
    · rename_i q
      cases e
      obtain ⟨vs, q, _⟩ := m _ _ q
      exact .base (.lst q)
    · rename_i q
      cases e
      obtain ⟨vs, q | ⟨o, q⟩, _⟩ := m _ _ q
      · exact .base (.lst q)
      · exact .base (.frz q)
    · rename_i q
      cases e
      obtain ⟨vs, q, _⟩ := m _ _ q
      exact .base (.dK q)
    · rename_i q
      cases e
      obtain ⟨vs, q, _⟩ := m _ _ q
      exact .base (.dT q)
    · cases e
theorem c_isi (T : String) : CallR X (.builtin "isinstance") (liftC X.K fun xs μ Q => ∃ x, xs = [x, .ty T] ∧ oIsi T x μ Q) := by
  intro pins s σ H vs us Q I rx h
  obtain ⟨xs, μ, Qm, r, m, ⟨x, e, t, b, h1, h2, h⟩, hq⟩ := h
  subst e
  obtain ⟨v0, v1, rfl, r0, r1⟩ := r.two
  cases r1
  exact call_isi pins s σ H _ us Q I rx ⟨_, _, _, _, b, rfl, .ty T, tyx_of m r0 h1, kit_ty h2, hq _ H _ μ Gr.refl (.bl _) m h⟩
end
end MP
set_option Elab.async false
set_option autoImplicit false
set_option linter.all false
set_option maxRecDepth 100000
namespace MP
open PySem PySem.Spec PyProof.Rows L2

/-! ### targets -/
def gNm (i : Nat) : MG := fun w ρ μ Q => Q (ρ.set i (some w)) μ
def gTp (n : Nat) (t : MGs) : MG := fun w ρ μ Q => match w with
  | .tup xs => xs.length = n ∧ t xs ρ μ Q
  | _ => False
def gNl : MGs := fun ws ρ μ Q => ws = [] ∧ Q ρ μ
def gCn (t : MG) (u : MGs) : MGs := fun ws ρ μ Q => match ws with
  | w :: r => t w ρ μ fun ρ' μ' => u r ρ' μ' Q
  | [] => False
theorem wipe_put {σ : L2.St} {i : Nat} {x : Option V} : ∀ {vs : List Nat}, wipe (σ.set i x) vs = if i ∈ vs then wipe σ vs else (wipe σ vs).set i x
  | [] => by simp [wipe]
  | v :: vs => by
    show (wipe (σ.set i x) vs).set v none = _
    rw [wipe_put (vs := vs)]
    by_cases h : i ∈ vs
    · rw [if_pos h, if_pos (List.mem_cons_of_mem _ h)]
      rfl
    · rw [if_neg h]
      by_cases hv : i = v
      · subst hv
        rw [if_pos List.mem_cons_self, List.set_set]
        rfl
      · rw [if_neg (by simp [hv, h])]
        show ((wipe σ vs).set i x).set v none = ((wipe σ vs).set v none).set i x
        rw [List.set_comm _ _ (fun e => hv e)]
theorem wipe_in {σ : L2.St} {i : Nat} {x : Option V} {vs : List Nat} (h : i ∈ vs) : wipe (σ.set i x) vs = wipe σ vs := by rw [wipe_put, if_pos h]

section
variable {X : Cx} {Wx : WX} {pos : Pos} {vs : List Nat}
theorem mg_name (i : Nat) {x : Str} (hN : X.N.Nodup) (hi : X.N[i]? = some x) (hx : Loc X.env.scope x) (hv : i ∈ vs) (hf : X.fn x = true ∨ X.env.scope.names.lookup x = some .local := by first | exact .inl rfl | exact .inr rfl | assumption) :
    PGm X (.Name x pos) vs (gNm i) := PG.imp (pg_name hN hi hx hf) fun v σ H Q h => by
  obtain ⟨w, ρ, μ, Qm, r, rs, rm, h, hq⟩ := h
  exact hq _ H _ μ Gr.refl (rs.set i r) rm (wipe_in hv) h
theorem mgs_nil : PGsm X [] vs gNl := PGs.imp pgs_nil fun v σ H Q h => by
  obtain ⟨w, ρ, μ, Qm, r, rs, rm, ⟨e, h⟩, hq⟩ := h
  subst e
  cases r
  exact ⟨rfl, hq _ H _ μ Gr.refl rs rm rfl h⟩
theorem mgs_cons {e : Expr} {es : List Expr} {t : MG} {u : MGs} (h1 : PGm X e vs t) (h2 : PGsm X es vs u) (h3 : (assignEach (e :: es) X.env).map (·.2) = assign e X.env :: (assignEach es X.env).map (·.2) := by rfl) : PGsm X (e :: es) vs (gCn t u) := PGs.imp (pgs_cons h1 h2 h3) fun v σ H Q h => by
  obtain ⟨ws, ρ, μ, Qm, r, rs, rm, h, hq⟩ := h
  cases r with
  | nil => exact h.elim
  | cons r0 t0 =>
    refine ⟨_, _, rfl, _, ρ, μ, _, r0, rs, rm, h, fun σ1 H1 ρ1 μ1 g1 rs1 m1 w1 q1 => ?_⟩
    exact ⟨_, ρ1, μ1, Qm, t0.mono g1.g, rs1, m1, q1, fun σ2 H2 ρ2 μ2 g2 rs2 m2 w2 q2 => hq σ2 H2 ρ2 μ2 (g1.trans g2) rs2 m2 (w2.trans w1) q2⟩
theorem mg_tup {es : List Expr} {k : Nat} {t : MGs} {n : Nat} (hc : X.calm = true) (h : PGsm X es vs t) (hn : (assignEach es X.env).length = n := by rfl) (hst : (assignEach es X.env).findIdx? (·.1) = none := by rfl) : PGm X (.Tuple es k pos) vs (gTp n t) := PG.imp (pg_tup hc h hn hst) fun v σ H Q h => by
  obtain ⟨w, ρ, μ, Qm, r, rs, rm, h, hq⟩ := h
  unfold gTp at h
  split at h
  · cases r with
    | tup s1 t1 => exact ⟨_, _, rfl, sqT_of s1, by rw [t1.length]; exact h.1, _, ρ, μ, Qm, t1, rs, rm, h.2, hq⟩
  · exact h.elim
end

/-! ### what is walked -/
structure MIt where
  items : List W
  ok : Mem → Prop
abbrev MI := MEnv → Mem → (MIt → Mem → Prop) → MXK → Prop
def Runs (K : PySem.W.Frag) (J : It) (H1 : Hp) (it : MIt) : Prop := ∀ (i : Nat) (H : Hp) (μ : Mem), Grow K H1 H → RM K H μ → it.ok μ →
  (∀ w, it.items[i]? = some w → J.go i H ∧ ∀ x H', J.yld i H x H' → Gr K μ H μ H' ∧ RM K H' μ ∧ RV K H' x w ∧ ∀ a o, H a = some o → H' a = some o) ∧ (it.items.length ≤ i → J.stop i H)
def liftI (K : PySem.W.Frag) (mg : Str → Option Value) (Wx : WX) (m : MI) : TI := fun σ H R => ∃ ρ μ Rm Em, RS K H σ ρ ∧ RM K H μ ∧ m ρ μ Rm Em ∧ (∀ J H' it μ', Gr K μ H μ' H' → RM K H' μ' → Runs K J H' it → Rm it μ' → R J H') ∧ PXq K mg μ H Em (fun cls d H' => Wx cls d σ H')
abbrev PIm (X : Cx) (Wx : WX) (tg e : Expr) (m : MI) : Prop := PI X tg e (liftI X.K X.mg Wx m)
theorem PI.imp {X : Cx} {tg e : Expr} {t t' : TI} (h : PI X tg e t) (q : ∀ σ H R, t' σ H R → t σ H R) : PI X tg e t' := ⟨fun pins s σ H R I z => h.run pins s σ H R I (q σ H R z)⟩

/-- the keys of a dict by flat tuples, as they are walked over -/
def kW : Key → W
  | .inl i => .int i
  | .inr x => .str x
def keysW (kvs : List (List Key × W)) : List W := kvs.map fun kv => .tup (kv.1.map kW)
def iSq (m : ME) : MI := fun ρ μ R E => m ρ μ (fun x μ1 => match x with
  | .tup xs => R ⟨xs, fun _ => True⟩ μ1
  | .rl xs => R ⟨xs, fun _ => True⟩ μ1
  | .ref a => ∃ xs, (μ1 a = some (.lst xs) ∧ R ⟨xs, fun μ => μ a = some (.lst xs)⟩ μ1) ∨ (μ1 a = some (.rol xs) ∧ R ⟨xs, fun μ => μ a = some (.rol xs)⟩ μ1) ∨ ∃ o gs kvs, μ1 a = some (.rdt o gs kvs) ∧ xs = keysW kvs ∧ R ⟨xs, fun μ => μ a = some (.rdt o gs kvs)⟩ μ1
  | _ => False) E
def rangeW (lo : Int) (n : Nat) : List W := (List.range n).map fun (k : Nat) => W.int (lo + (k : Int))
def iRg1 (t : MA) : MI := fun ρ μ R E => t ρ μ (fun xs μ1 => ∃ j : Int, xs = [.int j] ∧ -(2 ^ 62) ≤ j ∧ j < 2 ^ 62 ∧ R ⟨rangeW 0 j.toNat, fun _ => True⟩ μ1) E
def iRg2 (t : MA) : MI := fun ρ μ R E => t ρ μ (fun xs μ1 => ∃ i j : Int, xs = [.int i, .int j] ∧ (-(2 ^ 62) ≤ i ∧ i < 2 ^ 62 ∧ -(2 ^ 62) ≤ j ∧ j < 2 ^ 62) ∧ R ⟨rangeW i (j - i).toNat, fun _ => True⟩ μ1) E
def pairW (p : W × W) : W := .tup [p.1, p.2]
/-- zip of two tuples, of two lists -/
def iZp (t : MA) : MI := fun ρ μ R E => t ρ μ (fun ws μ1 => match ws with
  | [.tup xs, .tup ys] => R ⟨(xs.zip ys).map pairW, fun _ => True⟩ μ1
  | [.ref a, .ref b] => ∃ xs ys, μ1 a = some (.lst xs) ∧ μ1 b = some (.lst ys) ∧ R ⟨(xs.zip ys).map pairW, fun μ => μ a = some (.lst xs) ∧ μ b = some (.lst ys)⟩ μ1
  | _ => False) E
def enumW (xs : List W) : List W := (List.range xs.length).zipWith (fun (k : Nat) x => W.tup [.int k, x]) xs
def iEn (t : MA) : MI := fun ρ μ R E => t ρ μ (fun ws μ1 => match ws with
  | [.ref a] => ∃ xs, (μ1 a = some (.lst xs) ∧ R ⟨enumW xs, fun μ => μ a = some (.lst xs)⟩ μ1) ∨ (μ1 a = some (.rol xs) ∧ R ⟨enumW xs, fun μ => μ a = some (.rol xs)⟩ μ1)
  | _ => False) E

section
variable {X : Cx} {Wx : WX} {pos : Pos}
theorem runs_tup {K : PySem.W.Frag} {H : Hp} {a : Addr} {us : List V} {ws : List W} (s : H a = some (.tup us)) (r : RVs K H us ws) : Runs K (Itt K a) H ⟨ws, fun _ => True⟩ := fun i H2 μ g m _ => by
  refine ⟨fun w e => ?_, fun l => ⟨us, sqT_of (g.t _ _ s), by rw [r.length]; exact l⟩⟩
  obtain ⟨v, e1, rv⟩ := r.get e
  refine ⟨⟨us, v, sqT_of (g.t _ _ s), e1⟩, fun x H' y => ?_⟩
  obtain ⟨rfl, hy⟩ := y
  have z := hy us (sqT_of (g.t _ _ s))
  rw [e1] at z
  cases z
  exact ⟨Gr.refl, m, rv.mono g, fun _ _ q => q⟩
theorem runs_lst {K : PySem.W.Frag} {H : Hp} {a : Addr} {ws : List W} : Runs K (Itl K a) H ⟨ws, fun μ => μ a = some (.lst ws)⟩ := fun i H2 μ g m ok => by
  obtain ⟨us, q, r⟩ := m a _ ok
  have s : SqL K H2 a us := .inl (.inl q)
  refine ⟨fun w e => ?_, fun l => ⟨us, s, by rw [r.length]; exact l⟩⟩
  obtain ⟨v, e1, rv⟩ := r.get e
  refine ⟨⟨us, v, s, e1⟩, fun x H' y => ?_⟩
  obtain ⟨rfl, hy⟩ := y
  have z := hy us s
  rw [e1] at z
  cases z
  exact ⟨Gr.refl, m, rv, fun _ _ q => q⟩
theorem runs_rol {K : PySem.W.Frag} {H : Hp} {a : Addr} {ws : List W} : Runs K (Itl K a) H ⟨ws, fun μ => μ a = some (.rol ws)⟩ := fun i H2 μ g m ok => by
  obtain ⟨us, q, r⟩ := m a _ ok
  have s : SqL K H2 a us := .inl q
  refine ⟨fun w e => ?_, fun l => ⟨us, s, by rw [r.length]; exact l⟩⟩
  obtain ⟨v, e1, rv⟩ := r.get e
  refine ⟨⟨us, v, s, e1⟩, fun x H' y => ?_⟩
  obtain ⟨rfl, hy⟩ := y
  have z := hy us s
  rw [e1] at z
  cases z
  exact ⟨Gr.refl, m, rv, fun _ _ q => q⟩
theorem rv_kW {K : PySem.W.Frag} {H : Hp} : ∀ k : Key, RV K H (kV k) (kW k)
  | .inl i => .int i
  | .inr x => .str x
theorem rv_kWs {K : PySem.W.Frag} {H : Hp} : ∀ k : List Key, RVs K H (k.map kV) (k.map kW)
  | [] => .nil
  | k :: r => .cons (rv_kW k) (rv_kWs r)
theorem rk_at {κ : Type} {K : PySem.W.Frag} {H : Hp} : ∀ {gs : List (κ × V)} {kvs : List (κ × W)} {i : Nat} {p : κ × W}, RK K H gs kvs → kvs[i]? = some p → ∃ v, gs[i]? = some (p.1, v)
  | _, _, _, _, .nil, e => by simp at e
  | _, _, 0, p, .cons (v := v) r t, e => by
    have e' : _ = p := Option.some.inj e
    subst e'
    exact ⟨v, rfl⟩
  | _, _, i + 1, p, .cons r t, e => rk_at (i := i) t e
theorem runs_rdt {K : PySem.W.Frag} {H : Hp} {a : Addr} {o : Obj} {gs : List (List Key × V)} {kvs : List (List Key × W)} : Runs K (Itkt a o gs) H ⟨keysW kvs, fun μ => μ a = some (.rdt o gs kvs)⟩ := fun i H2 μ g m ok => by
  obtain ⟨q, r⟩ := m a _ ok
  refine ⟨fun w e => ?_, fun l => ⟨q, by rw [r.length]; simpa [keysW] using l⟩⟩
  unfold keysW at e
  rw [List.getElem?_map] at e
  cases hk : kvs[i]? with
  | none => rw [hk] at e; cases e
  | some p =>
    rw [hk] at e
    cases e
    obtain ⟨v, hv⟩ := rk_at r hk
    refine ⟨⟨q, (List.getElem?_eq_some_iff.mp hv).1⟩, fun x H' y => ?_⟩
    obtain ⟨rfl, k, v', q', h1, rfl, h2⟩ := y
    rw [hv] at h1
    cases h1
    exact ⟨Gr.refl, m, .tup h2 (rv_kWs _), fun _ _ q => q⟩
theorem runs_rl {K : PySem.W.Frag} {H : Hp} {a : Addr} {us : List V} {ws : List W} (s : SqR K H a us) (r : RVs K H us ws) : Runs K (Itl K a) H ⟨ws, fun _ => True⟩ := fun i H2 μ g m _ => by
  have s2 := (g.r _ _ s).sq
  refine ⟨fun w e => ?_, fun l => ⟨us, s2, by rw [r.length]; exact l⟩⟩
  obtain ⟨v, e1, rv⟩ := r.get e
  refine ⟨⟨us, v, s2, e1⟩, fun x H' y => ?_⟩
  obtain ⟨rfl, hy⟩ := y
  have z := hy us s2
  rw [e1] at z
  cases z
  exact ⟨Gr.refl, m, rv.mono g, fun _ _ q => q⟩
theorem mi_seq {tg l : Expr} {m : ME} (hl : PEm X Wx l m) : PIm X Wx tg l (iSq m) := ⟨fun pins s σ H R I h => by
  obtain ⟨ρ, μ, Rm, Em, rs, rm, h, hq, he⟩ := h
  refine thn (hl.run pins s σ H (fun v H1 => ∃ x μ1, Gr X.K μ H μ1 H1 ∧ RV X.K H1 v x ∧ RM X.K H1 μ1 ∧ (match x with
    | .tup xs => Rm ⟨xs, fun _ => True⟩ μ1
    | .rl xs => Rm ⟨xs, fun _ => True⟩ μ1
    | .ref a => ∃ xs, (μ1 a = some (.lst xs) ∧ Rm ⟨xs, fun μ => μ a = some (.lst xs)⟩ μ1) ∨ (μ1 a = some (.rol xs) ∧ Rm ⟨xs, fun μ => μ a = some (.rol xs)⟩ μ1) ∨ ∃ o gs kvs, μ1 a = some (.rdt o gs kvs) ∧ xs = keysW kvs ∧ Rm ⟨xs, fun μ => μ a = some (.rdt o gs kvs)⟩ μ1
    | _ => False)) I ⟨ρ, μ, _, Em, rs, rm, h, fun v H1 x μ1 g1 r1 m1 q1 => ⟨x, μ1, g1, r1, m1, q1⟩, he⟩) fun uv s1 ⟨v, H1, I1, rel, x, μ1, g1, r1, m1, q1⟩ => ?_
  have hnew : ∀ {p : Addr}, p ∈ [s1.heap.objs.size] → FpOk X pins H1 p := fun {p} hp => by
    obtain rfl : p = s1.heap.objs.size := by simpa using hp
    exact I1.fpOk (Nat.le_refl _) (I1.hok.fresh (Nat.le_refl _))
  cases r1 with
  | tup sq t1 =>
    cases rel
    obtain ⟨its, _, pl, _⟩ := I1.tuple (sqT_of sq)
    exact wpAny_pyIter_tuple (show s1.heap.IsTuple _ its.toArray from pl) ⟨s1.heap.objs.size, [s1.heap.objs.size], _, _, H1, rfl, I1.kept (t' := s1.toks) (fun _ _ z => Heap.get?_push_of_some _ z), turn_tuple _ _, ⟨_, Heap.get?_push_size _ rfl, rfl, rfl⟩,
      fun _ hp => hnew hp, hq _ H1 _ μ1 g1 m1 (runs_tup sq t1) q1⟩
  | ref a =>
    cases rel
    obtain ⟨xs, ⟨e, q1⟩ | ⟨e, q1⟩ | ⟨od, gs, kvs, e, ex, q1⟩⟩ := q1
    · obtain ⟨us, q, _⟩ := m1 a _ e
      obtain ⟨its, _, pl, _⟩ := I1.list (.inl (.inl q))
      exact wpAny_pyIter_list pl.isList ⟨s1.heap.objs.size, [s1.heap.objs.size], _, _, H1, rfl, I1.kept (t' := s1.toks) (fun _ _ z => Heap.get?_push_of_some _ z), turn_list _ _, ⟨_, Heap.get?_push_size _ rfl, rfl, rfl⟩,
        fun _ hp => hnew hp, hq _ H1 _ μ1 g1 m1 runs_lst q1⟩
    · obtain ⟨us, q, _⟩ := m1 a _ e
      obtain ⟨its, _, pl, _⟩ := I1.list (.inl q)
      exact wpAny_pyIter_list pl.isList ⟨s1.heap.objs.size, [s1.heap.objs.size], _, _, H1, rfl, I1.kept (t' := s1.toks) (fun _ _ z => Heap.get?_push_of_some _ z), turn_list _ _, ⟨_, Heap.get?_push_size _ rfl, rfl, rfl⟩,
        fun _ hp => hnew hp, hq _ H1 _ μ1 g1 m1 runs_rol q1⟩
    · subst ex
      have e1 := (m1 a _ e).1
      obtain ⟨hs, hgd, hx, es, ep, hdt, hsz, ent⟩ := I1.frzT e1
      refine iter_keys hs hgd hx hdt (pi_one (tk := s1.toks) I1 _ (turn_keysT _ hdt) ⟨_, Heap.get?_push_size _ rfl, rfl, ?_⟩ (hq _ H1 _ μ1 g1 m1 runs_rdt q1))
      rw [hsz] <;> rfl
  | rl sq t1 =>
    cases rel
    obtain ⟨its, _, pl, _⟩ := I1.list sq.sq
    exact wpAny_pyIter_list pl.isList ⟨s1.heap.objs.size, [s1.heap.objs.size], _, _, H1, rfl, I1.kept (t' := s1.toks) (fun _ _ z => Heap.get?_push_of_some _ z), turn_list _ _, ⟨_, Heap.get?_push_size _ rfl, rfl, rfl⟩,
      fun _ hp => hnew hp, hq _ H1 _ μ1 g1 m1 (runs_rl sq t1) q1⟩
  | non => exact q1.elim
  | bl b => exact q1.elim
  | int b => exact q1.elim
  | str b => exact q1.elim
  | ty b => exact q1.elim⟩
theorem runs_rng {K : PySem.W.Frag} {H : Hp} {lo : Int} {n : Nat} : Runs K (Itr lo n) H ⟨rangeW lo n, fun _ => True⟩ := fun i H2 μ g m _ => by
  refine ⟨fun w e => ?_, fun l => show n ≤ i by simpa [rangeW] using l⟩
  unfold rangeW at e
  rw [List.getElem?_map] at e
  by_cases hi : i < n
  · rw [List.getElem?_range hi] at e
    cases e
    exact ⟨hi, fun x H' y => by
      obtain ⟨rfl, rfl⟩ := y
      exact ⟨Gr.refl, m, .int _, fun _ _ q => q⟩⟩
  · rw [List.getElem?_eq_none (by simpa using hi)] at e
    cases e
theorem mi_rg1 {tg a : Expr} {t : MA} {p : Pos} (hg : Gl X "range") (hm : X.mg "range" = none) (ha : PAm X Wx [a] t) (hs : starEach [a] X.env = [(false, eval a X.env)] := by rfl) : PIm X Wx tg (.Call (.Name "range" p) [a] [] pos) (iRg1 t) := PI.imp (pi_range1 hg hm ha hs) fun σ H R h => by
  obtain ⟨ρ, μ, Rm, Em, rs, rm, h, hq, he⟩ := h
  refine ⟨ρ, μ, _, Em, rs, rm, h, fun vs H1 ws μ1 g1 r1 m1 ⟨j, e, l1, l2, q1⟩ => ?_, he⟩
  subst e
  obtain ⟨v0, rfl, r0⟩ := r1.one
  cases r0
  exact ⟨j, rfl, l1, l2, hq _ H1 _ μ1 g1 m1 runs_rng q1⟩
theorem mi_rg2 {tg a b : Expr} {t : MA} {p : Pos} (hg : Gl X "range") (hm : X.mg "range" = none) (ha : PAm X Wx [a, b] t) (hs : starEach [a, b] X.env = [(false, eval a X.env), (false, eval b X.env)] := by rfl) (hs2 : starEach [b] X.env = [(false, eval b X.env)] := by rfl) :
    PIm X Wx tg (.Call (.Name "range" p) [a, b] [] pos) (iRg2 t) := PI.imp (pi_range2 hg hm ha hs hs2) fun σ H R h => by
  obtain ⟨ρ, μ, Rm, Em, rs, rm, h, hq, he⟩ := h
  refine ⟨ρ, μ, _, Em, rs, rm, h, fun vs H1 ws μ1 g1 r1 m1 ⟨i, j, e, l1, q1⟩ => ?_, he⟩
  subst e
  obtain ⟨v0, v1, rfl, r0, r2⟩ := r1.two
  cases r0; cases r2
  exact ⟨i, j, rfl, l1, hq _ H1 _ μ1 g1 m1 runs_rng q1⟩
theorem zip_at {xs ys : List W} {i : Nat} {w : W} (e : ((xs.zip ys).map pairW)[i]? = some w) : ∃ x y, xs[i]? = some x ∧ ys[i]? = some y ∧ w = .tup [x, y] := by
  rw [List.getElem?_map] at e
  cases q : (xs.zip ys)[i]? with
  | none => rw [q] at e; cases e
  | some p =>
    rw [q] at e
    cases e
    rw [List.getElem?_zip_eq_some] at q
    exact ⟨p.1, p.2, q.1, q.2, rfl⟩
theorem runs_zip {K : PySem.W.Frag} {H : Hp} {a b : Addr} {us vs : List V} {xs ys : List W} (s1 : H a = some (.tup us)) (r1 : RVs K H us xs) (s2 : H b = some (.tup vs)) (r2 : RVs K H vs ys) : Runs K (RZ.ItzT K a b) H ⟨(xs.zip ys).map pairW, fun _ => True⟩ := fun i H2 μ g m _ => by
  refine ⟨fun w e => ?_, fun l => ⟨us, vs, sqT_of (g.t _ _ s1), sqT_of (g.t _ _ s2), ?_⟩⟩
  · obtain ⟨x, y, e1, e2, rfl⟩ := zip_at e
    obtain ⟨v1, f1, k1⟩ := r1.get e1
    obtain ⟨v2, f2, k2⟩ := r2.get e2
    refine ⟨⟨us, vs, v1, v2, sqT_of (g.t _ _ s1), sqT_of (g.t _ _ s2), f1, f2⟩, fun z H' yy => ?_⟩
    obtain ⟨T, p, q, rfl, nT, rfl, h1, h2⟩ := yy
    have z1 := h1 us (sqT_of (g.t _ _ s1))
    have z2 := h2 vs (sqT_of (g.t _ _ s2))
    rw [f1] at z1
    rw [f2] at z2
    cases z1; cases z2
    have gg := grow_new (K := K) (o := .tup [v1, v2]) nT
    exact ⟨Gr.new0 nT, m.new nT, .tup upd_same (.cons ((k1.mono g).mono gg) (.cons ((k2.mono g).mono gg) .nil)), fun c o hc => by rw [upd_ne (ne_of_none hc nT)]; exact hc⟩
  · simp only [List.length_map, List.length_zip] at l
    rw [r1.length, r2.length]
    omega
theorem runs_zipL {K : PySem.W.Frag} {H : Hp} {a b : Addr} {xs ys : List W} : Runs K (Itz K a b) H ⟨(xs.zip ys).map pairW, fun μ => μ a = some (.lst xs) ∧ μ b = some (.lst ys)⟩ := fun i H2 μ g m ok => by
  obtain ⟨us, q1, r1⟩ := m a _ ok.1
  obtain ⟨vs, q2, r2⟩ := m b _ ok.2
  have s1 : SqL K H2 a us := .inl (.inl q1)
  have s2 : SqL K H2 b vs := .inl (.inl q2)
  refine ⟨fun w e => ?_, fun l => ⟨us, vs, s1, s2, ?_⟩⟩
  · obtain ⟨x, y, e1, e2, rfl⟩ := zip_at e
    obtain ⟨v1, f1, k1⟩ := r1.get e1
    obtain ⟨v2, f2, k2⟩ := r2.get e2
    refine ⟨⟨us, vs, v1, v2, s1, s2, f1, f2⟩, fun z H' yy => ?_⟩
    obtain ⟨T, p, q, rfl, nT, rfl, h1, h2⟩ := yy
    have z1 := h1 us s1
    have z2 := h2 vs s2
    rw [f1] at z1
    rw [f2] at z2
    cases z1; cases z2
    have gg := grow_new (K := K) (o := .tup [v1, v2]) nT
    exact ⟨Gr.new0 nT, m.new nT, .tup upd_same (.cons (k1.mono gg) (.cons (k2.mono gg) .nil)), fun c o hc => by rw [upd_ne (ne_of_none hc nT)]; exact hc⟩
  · simp only [List.length_map, List.length_zip] at l
    rw [r1.length, r2.length]
    omega
theorem mi_zip {e e2 : Expr} {t : MA} {p tpos : Pos} {elts : List Expr} {kk : Nat} (hg : Gl X "zip") (hm : X.mg "zip" = none) (ha : PAm X Wx [e, e2] t) (hs : starEach [e, e2] X.env = (false, eval e X.env) :: starEach [e2] X.env := by rfl) (hpl : (backTo pos (starEach [e2] X.env)).any (·.1) = false := by rfl) :
    PIm X Wx (.Tuple elts kk tpos) (.Call (.Name "zip" p) [e, e2] [] pos) (iZp t) := PI.imp (RZ.pi_zipA hg hm ha hs hpl) fun σ H R h => by
  obtain ⟨ρ, μ, Rm, Em, rs, rm, h, hq, he⟩ := h
  refine ⟨ρ, μ, _, Em, rs, rm, h, fun vs H1 ws μ1 g1 r1 m1 q1 => ?_, he⟩
  split at q1
  · obtain ⟨v0, v1, rfl, r0, r2⟩ := r1.two
    cases r0 with
    | tup s1 t1 =>
      cases r2 with
      | tup s2 t2 => exact ⟨_, _, _, _, rfl, .inr ⟨sqT_of s1, sqT_of s2, hq _ H1 _ μ1 g1 m1 (runs_zip s1 t1 s2 t2) q1⟩⟩
  · obtain ⟨v0, v1, rfl, r0, r2⟩ := r1.two
    cases r0; cases r2
    obtain ⟨xs, ys, e1, e2, q1⟩ := q1
    obtain ⟨us, s1, _⟩ := m1 _ _ e1
    obtain ⟨vs, s2, _⟩ := m1 _ _ e2
    exact ⟨_, _, _, _, rfl, .inl ⟨.inl (.inl s1), .inl (.inl s2), hq _ H1 _ μ1 g1 m1 runs_zipL q1⟩⟩
  · exact q1.elim
theorem enum_at {xs : List W} {i : Nat} {w : W} (e : (enumW xs)[i]? = some w) : ∃ x, xs[i]? = some x ∧ w = .tup [.int i, x] := by
  unfold enumW at e
  rw [List.getElem?_zipWith] at e
  cases q : xs[i]? with
  | none =>
    rw [q] at e
    revert e
    cases (List.range xs.length)[i]? <;> intro e <;> simp at e
  | some x =>
    have hi : i < xs.length := (List.getElem?_eq_some_iff.mp q).1
    rw [q, List.getElem?_range hi] at e
    cases e
    exact ⟨x, rfl, rfl⟩
theorem enum_len (xs : List W) : (enumW xs).length = xs.length := by simp [enumW]
theorem runs_enum {K : PySem.W.Frag} {H : Hp} {a : Addr} {xs : List W} : Runs K (Ite K a) H ⟨enumW xs, fun μ => μ a = some (.lst xs)⟩ := fun i H2 μ g m ok => by
  obtain ⟨us, q1, r1⟩ := m a _ ok
  have s1 : SqL K H2 a us := .inl (.inl q1)
  refine ⟨fun w e => ?_, fun l => ⟨us, s1, ?_⟩⟩
  · obtain ⟨x, e1, rfl⟩ := enum_at e
    obtain ⟨v1, f1, k1⟩ := r1.get e1
    refine ⟨⟨us, v1, s1, f1⟩, fun z H' yy => ?_⟩
    obtain ⟨T, p, rfl, nT, rfl, h1⟩ := yy
    have z1 := h1 us s1
    rw [f1] at z1
    cases z1
    have gg := grow_new (K := K) (o := .tup [.int i, v1]) nT
    exact ⟨Gr.new0 nT, m.new nT, .tup upd_same (.cons (.int _) (.cons (k1.mono gg) .nil)), fun c o hc => by rw [upd_ne (ne_of_none hc nT)]; exact hc⟩
  · rw [r1.length]
    simpa [enum_len] using l
theorem runs_enumR {K : PySem.W.Frag} {H : Hp} {a : Addr} {xs : List W} : Runs K (Ite K a) H ⟨enumW xs, fun μ => μ a = some (.rol xs)⟩ := fun i H2 μ g m ok => by
  obtain ⟨us, q1, r1⟩ := m a _ ok
  have s1 : SqL K H2 a us := .inl q1
  refine ⟨fun w e => ?_, fun l => ⟨us, s1, ?_⟩⟩
  · obtain ⟨x, e1, rfl⟩ := enum_at e
    obtain ⟨v1, f1, k1⟩ := r1.get e1
    refine ⟨⟨us, v1, s1, f1⟩, fun z H' yy => ?_⟩
    obtain ⟨T, p, rfl, nT, rfl, h1⟩ := yy
    have z1 := h1 us s1
    rw [f1] at z1
    cases z1
    have gg := grow_new (K := K) (o := .tup [.int i, v1]) nT
    exact ⟨Gr.new0 nT, m.new nT, .tup upd_same (.cons (.int _) (.cons (k1.mono gg) .nil)), fun c o hc => by rw [upd_ne (ne_of_none hc nT)]; exact hc⟩
  · rw [r1.length]
    simpa [enum_len] using l
theorem mi_enum {e : Expr} {t : MA} {p tpos : Pos} {elts : List Expr} {kk : Nat} (hg : Gl X "enumerate") (hm : X.mg "enumerate" = none) (ha : PAm X Wx [e] t) (hs : starEach [e] X.env = [(false, eval e X.env)] := by rfl) :
    PIm X Wx (.Tuple elts kk tpos) (.Call (.Name "enumerate" p) [e] [] pos) (iEn t) := PI.imp (pi_enum hg hm ha hs) fun σ H R h => by
  obtain ⟨ρ, μ, Rm, Em, rs, rm, h, hq, he⟩ := h
  refine ⟨ρ, μ, _, Em, rs, rm, h, fun vs H1 ws μ1 g1 r1 m1 q1 => ?_, he⟩
  split at q1
  · obtain ⟨v0, rfl, r0⟩ := r1.one
    cases r0
    obtain ⟨xs, ⟨e1, q1⟩ | ⟨e1, q1⟩⟩ := q1
    · obtain ⟨us, s1, _⟩ := m1 _ _ e1
      exact ⟨_, _, rfl, .inl (.inl s1), hq _ H1 _ μ1 g1 m1 runs_enum q1⟩
    · obtain ⟨us, s1, _⟩ := m1 _ _ e1
      exact ⟨_, _, rfl, .inl s1, hq _ H1 _ μ1 g1 m1 runs_enumR q1⟩
  · exact q1.elim
end
end MP
set_option Elab.async false
set_option autoImplicit false
set_option linter.all false
set_option maxRecDepth 100000
namespace MP
open PySem PySem.Spec PyProof.Rows L2

/-! ### readings of statements -/
def noX : MXK := fun _ _ => False
def sNext : MS := fun ρ μ D _ => D.nx ρ μ
def sSeq (t u : MS) : MS := fun ρ μ D E => t ρ μ { D with nx := fun ρ1 μ1 => u ρ1 μ1 D E } E
def sBreak : MS := fun ρ μ D _ => D.bk ρ μ
def sCont : MS := fun ρ μ D _ => D.ct ρ μ
def sDrop (m : ME) : MS := fun ρ μ D E => m ρ μ (fun _ μ1 => D.nx ρ μ1) (fun x μ1 => E x ρ μ1)
def sRet (m : ME) : MS := fun ρ μ D E => m ρ μ D.rt (fun x μ1 => E x ρ μ1)
def sRetN : MS := fun _ μ D _ => D.rt .non μ
def sIf (c : MT) (t u : MS) : MS := fun ρ μ D E => c ρ μ (fun b μ1 => if b = true then t ρ μ1 D E else u ρ μ1 D E) (fun x μ1 => E x ρ μ1)
def sAsg (m : ME) (g : MG) : MS := fun ρ μ D E => m ρ μ (fun x μ1 => g x ρ μ1 D.nx) (fun x μ1 => E x ρ μ1)
def sAug (i : Nat) (r : O2) (m : ME) : MS := fun ρ μ D E => ∃ x, ρ[i]? = some (some x) ∧ m ρ μ (fun y μ1 => r x y μ1 fun z μ2 => D.nx (ρ.set i (some z)) μ2) (fun x μ1 => E x ρ μ1)
def loopF (g : MG) (body : MS) (ok : Mem → Prop) (D : MEnds) (E : MXS) : List W → MEnv → Mem → Prop
  | [], ρ, μ => ok μ ∧ D.nx ρ μ
  | x :: r, ρ, μ => ok μ ∧ g x ρ μ fun ρ1 μ1 => body ρ1 μ1 { nx := loopF g body ok D E r, rt := D.rt, bk := D.nx, ct := loopF g body ok D E r } E
def sFor (it : MI) (g : MG) (body : MS) : MS := fun ρ μ D E => it ρ μ (fun J μ1 => loopF g body J.ok D E J.items ρ μ1) (fun x μ1 => E x ρ μ1)
def loopW (c : MT) (body : MS) (D : MEnds) (E : MXS) : Nat → MEnv → Mem → Prop
  | 0, _, _ => False
  | n + 1, ρ, μ => c ρ μ (fun b μ1 => if b = true then body ρ μ1 { nx := loopW c body D E n, rt := D.rt, bk := D.nx, ct := loopW c body D E n } E else D.nx ρ μ1) (fun x μ1 => E x ρ μ1)
def sWhile (c : MT) (body : MS) : MS := fun ρ μ D E => ∃ n, loopW c body D E n ρ μ

section
variable {K : PySem.W.Frag} {mg : Str → Option Value} {Wx : WX} {H H' : Hp} {μ : Mem} {σ : L2.St} {ρ : MEnv} {Es : MXS}
theorem PXs.ex (h : PXs K mg Wx μ H Es) (rs : RS K H σ ρ) : PXq K mg μ H (fun x μ1 => Es x ρ μ1) (fun cls d H' => Wx cls d σ H') := fun e H' μ' cls d g rx rm q => h e H' σ ρ μ' cls d g (rs.mono g.g) rx rm q
end

section
variable {X : Cx} {Wx : WX} {pos : Pos} {e : Expr} {m : ME} {st : Stmt} {rest : List Stmt} {t u : MS}
theorem ms_nil : PSsm X Wx [] sNext := PSs.imp pss_nil fun D σ H h => by
  obtain ⟨ρ, μ, Dm, Em, rs, rm, h, hn, _⟩ := h
  exact hn σ H ρ μ Gr.refl rs rm h
theorem ms_cons (h1 : PSm X Wx st t) (h2 : PSsm X Wx rest u) : PSsm X Wx (st :: rest) (sSeq t u) := PSs.imp (pss_cons h1 h2) fun D σ H h => by
  obtain ⟨ρ, μ, Dm, Em, rs, rm, h, hn, hr, hb, hc, he⟩ := h
  exact ⟨ρ, μ, _, Em, rs, rm, h, fun σ1 H1 ρ1 μ1 g1 rs1 m1 q1 => ⟨ρ1, μ1, Dm, Em, rs1, m1, q1, hn.mono g1, hr.mono g1, hb.mono g1, hc.mono g1, he.mono g1⟩, hr, hb, hc, he⟩
theorem ms_one (h1 : PSm X Wx st t) : PSsm X Wx [st] t := pss_one h1
theorem ms_pass : PSm X Wx (.Pass pos) sNext := PS.imp ps_pass fun D σ H h => by
  obtain ⟨ρ, μ, Dm, Em, rs, rm, h, hn, _⟩ := h
  exact hn σ H ρ μ Gr.refl rs rm h
theorem ms_break : PSm X Wx (.Break pos) sBreak := PS.imp ps_break fun D σ H h => by
  obtain ⟨ρ, μ, Dm, Em, rs, rm, h, hn, hr, hb, hc, he⟩ := h
  exact hb σ H ρ μ Gr.refl rs rm h
theorem ms_continue : PSm X Wx (.Continue pos) sCont := PS.imp ps_continue fun D σ H h => by
  obtain ⟨ρ, μ, Dm, Em, rs, rm, h, hn, hr, hb, hc, he⟩ := h
  exact hc σ H ρ μ Gr.refl rs rm h
theorem ms_expr (h1 : PEm X Wx e m) (hs : swapsWith e none pos.line X.env = pure false := by rfl) : PSm X Wx (.Expr e pos) (sDrop m) := PS.imp (ps_expr h1 hs) fun D σ H h => by
  obtain ⟨ρ, μ, Dm, Em, rs, rm, h, hn, hr, hb, hc, he⟩ := h
  exact ⟨ρ, μ, _, _, rs, rm, h, fun v H1 x μ1 g1 r1 m1 q1 => hn σ H1 ρ μ1 g1 (rs.mono g1.g) m1 q1, he.ex rs⟩
theorem ms_ret (h1 : PEm X Wx e m) : PSm X Wx (.Return (some e) pos) (sRet m) := PS.imp (ps_ret h1) fun D σ H h => by
  obtain ⟨ρ, μ, Dm, Em, rs, rm, h, hn, hr, hb, hc, he⟩ := h
  exact ⟨ρ, μ, _, _, rs, rm, h, hr, he.ex rs⟩
theorem ms_retN : PSm X Wx (.Return none pos) sRetN := PS.imp ps_retN fun D σ H h => by
  obtain ⟨ρ, μ, Dm, Em, rs, rm, h, hn, hr, hb, hc, he⟩ := h
  exact hr _ H _ μ Gr.refl .non rm h
theorem ms_if {c : Expr} {a b : List Stmt} {tc : MT} (hc : PTm X Wx c tc) (ha : PSsm X Wx a t) (hb : PSsm X Wx b u) : PSm X Wx (.If c a b pos) (sIf tc t u) := PS.imp (ps_if hc ha hb) fun D σ H h => by
  obtain ⟨ρ, μ, Dm, Em, rs, rm, h, hn, hr, hb, hc, he⟩ := h
  refine ⟨ρ, μ, _, _, rs, rm, h, fun k H1 μ1 g1 m1 q1 => ?_, he.ex rs⟩
  by_cases hk : k = true
  · rw [if_pos hk] at q1 ⊢
    exact ⟨ρ, μ1, Dm, Em, rs.mono g1.g, m1, q1, hn.mono g1, hr.mono g1, hb.mono g1, hc.mono g1, he.mono g1⟩
  · rw [if_neg hk] at q1 ⊢
    exact ⟨ρ, μ1, Dm, Em, rs.mono g1.g, m1, q1, hn.mono g1, hr.mono g1, hb.mono g1, hc.mono g1, he.mono g1⟩
theorem ms_asg {tg : Expr} {vs : List Nat} {g : MG} (h1 : PEm X Wx e m) (hg : PGm X tg vs g) (hs : swapsWithSole [tg] e pos.line X.env = pure false := by rfl) (hw : swappedStores [tg] e X.env = pure none := by rfl)
    (hx : (assignEach [tg] X.env).map (·.2) = [assign tg X.env] := by rfl) : PSm X Wx (.Assign [tg] e pos) (sAsg m g) := PS.imp (ps_asg h1 hg hs hw hx) fun D σ H h => by
  obtain ⟨ρ, μ, Dm, Em, rs, rm, h, hn, hr, hb, hc, he⟩ := h
  exact ⟨ρ, μ, _, _, rs, rm, h, fun v H1 x μ1 g1 r1 m1 q1 => ⟨x, ρ, μ1, _, r1, rs.mono g1.g, m1, q1, fun σ2 H2 ρ2 μ2 g2 rs2 m2 _ q2 => hn σ2 H2 ρ2 μ2 (g1.trans g2) rs2 m2 q2⟩, he.ex rs⟩
theorem ms_aug (i : Nat) {x : Str} {op : Operator} {r : O2} {p2 : Pos} (hN : X.N.Nodup) (hi : X.N[i]? = some x) (hx : Loc X.env.scope x) (h1 : PEm X Wx e m) (ho : PIp X op (lift2 X.K r)) (hf : X.fn x = true ∨ X.env.scope.names.lookup x = some .local := by first | exact .inl rfl | exact .inr rfl | assumption) :
    PSm X Wx (.AugAssign (.Name x p2) op e pos) (sAug i r m) := PS.imp (ps_aug hN hi hx h1 ho hf) fun D σ H h => by
  obtain ⟨ρ, μ, Dm, Em, rs, rm, ⟨w, ew, h⟩, hn, hr, hb, hc, he⟩ := h
  obtain ⟨v, e1, r0⟩ := rs.get i w ew
  refine ⟨v, e1, ρ, μ, _, _, rs, rm, h, fun v1 H1 y μ1 g1 r1 m1 q1 => ?_, he.ex rs⟩
  exact ⟨w, y, μ1, _, r0.mono g1.g, r1, m1, q1, fun v2 H2 z μ2 g2 r2 m2 q2 => hn _ H2 _ μ2 (g1.trans g2) ((rs.mono (g1.trans g2).g).set i r2) m2 q2⟩
theorem ms_for {tg iter : Expr} {body : List Stmt} {vs : List Nat} {mi : MI} {g : MG} (G : Good X Wx) (hp : PassesOwn (model X.prog X.w) X.A X.env X.xe) (hi : PIm X Wx tg iter mi) (hg : PGm X tg vs g) (hb : PSsm X Wx body t)
    (hs : ∀ x, foldedSetIterable iter X.env x = pure x := by intro _; rfl) : PSm X Wx (.For tg iter body [] pos) (sFor mi g t) := PS.imp (ps_for hp G.calm hi hg hb hs) fun D σ H h => by
  obtain ⟨ρ, μ, Dm, Em, rs, rm, h, hn, hr, hb, hc, he⟩ := h
  refine ⟨ρ, μ, _, _, rs, rm, h, fun J H1 it μ1 g1 m1 hR hL => ?_, he.ex rs⟩
  refine ⟨fun i m σ' H' => m = it.items.length - i ∧ i ≤ it.items.length ∧ ∃ ρ' μ', Gr X.K μ H μ' H' ∧ RS X.K H' σ' ρ' ∧ RM X.K H' μ' ∧ Grow X.K H1 H' ∧ loopF g t it.ok Dm Em (it.items.drop i) ρ' μ',
    ⟨_, rfl, Nat.zero_le _, ρ, μ1, g1, rs.mono g1.g, m1, Grow.refl, hL⟩, fun i m σ' H' hw => ?_⟩
  obtain ⟨rfl, hi, ρ', μ', g', rs', m', gg, hl⟩ := hw
  by_cases hlt : i < it.items.length
  · rw [List.drop_eq_getElem_cons hlt] at hl
    obtain ⟨ok, hl⟩ := hl
    obtain ⟨go, hy⟩ := (hR i H' μ' gg m' ok).1 _ (List.getElem?_eq_getElem hlt)
    refine .inr ⟨go, fun σ2 H2 => ∃ ρ2 μ2, Gr X.K μ H μ2 H2 ∧ RS X.K H2 σ2 ρ2 ∧ RM X.K H2 μ2 ∧ Grow X.K H1 H2 ∧ loopF g t it.ok Dm Em (it.items.drop (i + 1)) ρ2 μ2, fun σ2 H2 hN => ⟨it.items.length - (i + 1), by omega, rfl, hlt, hN⟩, fun x H2 y => ?_⟩
    obtain ⟨g2, m2, r2, _⟩ := hy x H2 y
    refine ⟨_, ρ', μ', _, r2, rs'.mono g2.g, m2, hl, fun σ3 H3 ρ3 μ3 g3 rs3 m3 _ q3 => ?_⟩
    have gA : Gr X.K μ H μ3 H3 := (g'.trans g2).trans g3
    have gB : Grow X.K H1 H3 := (gg.trans g2.g).trans g3.g
    refine ⟨ρ3, μ3, _, Em, rs3, m3, q3, fun σ4 H4 ρ4 μ4 g4 rs4 m4 q4 => ⟨ρ4, μ4, gA.trans g4, rs4, m4, gB.trans g4.g, q4⟩, hr.mono gA, hn.mono gA, fun σ4 H4 ρ4 μ4 g4 rs4 m4 q4 => ⟨ρ4, μ4, gA.trans g4, rs4, m4, gB.trans g4.g, q4⟩, he.mono gA⟩
  · rw [List.drop_of_length_le (by omega)] at hl
    exact .inl ⟨(hR i H' μ' gg m' hl.1).2 (by omega), hn σ' H' ρ' μ' g' rs' m' hl.2⟩
theorem ms_while {c : Expr} {body : List Stmt} {tc : MT} (hp : PassesOwn (model X.prog X.w) X.A X.env X.xe) (hc : PTm X Wx c tc) (hb : PSsm X Wx body t) : PSm X Wx (.While c body [] pos) (sWhile tc t) := PS.imp (ps_while hp hc hb) fun D σ H h => by
  obtain ⟨ρ, μ, Dm, Em, rs, rm, ⟨n, h⟩, hn, hr, hb, hc, he⟩ := h
  refine ⟨fun m σ' H' => ∃ ρ' μ', Gr X.K μ H μ' H' ∧ RS X.K H' σ' ρ' ∧ RM X.K H' μ' ∧ loopW tc t Dm Em m ρ' μ', ⟨n, ρ, μ, Gr.refl, rs, rm, h⟩, fun m σ' H' hw => ?_⟩
  obtain ⟨ρ', μ', g', rs', m', hl⟩ := hw
  cases m with
  | zero => exact hl.elim
  | succ m =>
    refine ⟨ρ', μ', _, _, rs', m', hl, fun k H1 μ1 g1 m1 q1 => ?_, (he.mono g').ex rs'⟩
    by_cases hk : k = true
    · rw [if_pos hk] at q1 ⊢
      have gA := g'.trans g1
      refine ⟨fun σ2 H2 => ∃ ρ2 μ2, Gr X.K μ H μ2 H2 ∧ RS X.K H2 σ2 ρ2 ∧ RM X.K H2 μ2 ∧ loopW tc t Dm Em m ρ2 μ2, fun σ2 H2 hN => ⟨m, Nat.lt_succ_self m, hN⟩, ?_⟩
      exact ⟨ρ', μ1, _, Em, rs'.mono g1.g, m1, q1, fun σ4 H4 ρ4 μ4 g4 rs4 m4 q4 => ⟨ρ4, μ4, gA.trans g4, rs4, m4, q4⟩, hr.mono gA, hn.mono gA, fun σ4 H4 ρ4 μ4 g4 rs4 m4 q4 => ⟨ρ4, μ4, gA.trans g4, rs4, m4, q4⟩, he.mono gA⟩
    · rw [if_neg hk] at q1 ⊢
      exact hn σ' H1 ρ' μ1 (g'.trans g1) (rs'.mono g1.g) m1 q1
end

/-! ### comprehensions -/
def loopC (g : MG) (tt : MT) (te : ME) (vs : List Nat) (ρ₀ : MEnv) (ok : Mem → Prop) (Q : List W → Mem → Prop) : List W → List W → Mem → Prop
  | [], acc, μ => ok μ ∧ Q acc μ
  | x :: r, acc, μ => ok μ ∧ g x (wipeM ρ₀ vs) μ fun ρ1 μ1 => tt ρ1 μ1 (fun b μ2 => if b = true then te ρ1 μ2 (fun y μ3 => acc.length < sizeLine ∧ loopC g tt te vs ρ₀ ok Q r (acc ++ [y]) μ3) noX else loopC g tt te vs ρ₀ ok Q r acc μ2) noX
/-- the list of a comprehension, handed to f -/
def eLcI (it : MI) (g : MG) (tt : MT) (te : ME) (vs : List Nat) (f : List W → MQ → Mem → Prop) : ME := fun ρ μ Q E => it ρ μ (fun J μ1 => loopC g tt te vs ρ J.ok (fun acc μ2 => f acc Q μ2) J.items [] μ1) E
def fList : List W → MQ → Mem → Prop := fun acc Q μ => ∀ p, μ p = none → Q (.ref p) (updM μ p (.lst acc))
def tTrue : MT := fun _ μ Q _ => Q true μ
def W0 : WX := fun _ _ _ _ => False
theorem tk0 {X : Cx} : Takes X W0 := takes0
theorem pxq0 {K : PySem.W.Frag} {mg : Str → Option Value} {H : Hp} {μ : Mem} {E : XK} : PXq K mg μ H noX E := fun _ _ _ _ _ _ _ _ h => h.elim

theorem wiped {σ : L2.St} {u : Nat} : ∀ {vs : List Nat}, u ∈ vs → (wipe σ vs).set u none = wipe σ vs
  | v :: vs, h => by
    show ((wipe σ vs).set v none).set u none = (wipe σ vs).set v none
    by_cases e : v = u
    · subst e
      rw [List.set_set]
    · rw [List.set_comm _ _ e, wiped (vs := vs) (by
        rcases List.mem_cons.mp h with z | z
        · exact absurd z.symm e
        · exact z)]
theorem wipe_wipe (σ : L2.St) (vs : List Nat) : wipe (wipe σ vs) vs = wipe σ vs := by
  have key : ∀ us : List Nat, (∀ x ∈ us, x ∈ vs) → wipe (wipe σ vs) us = wipe σ vs := by
    intro us
    induction us with
    | nil => intro _; rfl
    | cons u us ih =>
      intro hu
      show (wipe (wipe σ vs) us).set u none = wipe σ vs
      rw [ih fun x hx => hu x (List.mem_cons_of_mem _ hx)]
      exact wiped (hu u List.mem_cons_self)
  exact key vs fun _ h => h
theorem lc_lift {K : PySem.W.Frag} {mg : Str → Option Value} {Wx : WX} {σ : L2.St} {H : Hp} {ρ : MEnv} {μ : Mem} {mi : MI} {g : MG} {tt : MT} {te : ME} {vs : List Nat} {Qc : List W → Mem → Prop} {Em : MXK} {QQ : VK}
    (rs : RS K H σ ρ) (rm : RM K H μ) (h : mi ρ μ (fun J μ1 => loopC g tt te vs ρ J.ok Qc J.items [] μ1) Em) (he : PXq K mg μ H Em (fun cls d H' => Wx cls d σ H'))
    (hfin : ∀ (D : Addr) (H2 : Hp) (us : List V) (acc : List W) (μ2 : Mem), H2 D = some (.lst us) → RVs K H2 us acc → Gr K μ H μ2 H2 → μ2 D = none → (∀ a o, H a = some o → μ a = none → a ≠ D) → RM K H2 μ2 → Qc acc μ2 → QQ (.ref D) H2) :
    tLc (liftI K mg Wx mi) (liftG K vs g) (liftT K mg W0 tt) (liftE K mg W0 te) vs σ H QQ := by
  refine ⟨ρ, μ, _, _, rs, rm, h, fun J H1 it μ1 g1 m1 hR hL => ?_, he⟩
  intro D hD
  have hD0 : ∀ a o, H a = some o → μ a = none → a ≠ D := fun a o ha na z => by
    subst z
    rw [(g1.f a o ha na).1] at hD
    cases hD
  have gD : Gr K μ1 H1 μ1 (upd H1 D (.lst [])) := Gr.new0 hD
  refine ⟨fun i m H' => m = it.items.length - i ∧ i ≤ it.items.length ∧ ∃ acc us μ', H' D = some (.lst us) ∧ RVs K H' us acc ∧ μ' D = none ∧ Gr K μ H μ' H' ∧ RM K H' μ' ∧ Grow K H1 H' ∧ loopC g tt te vs ρ it.ok Qc (it.items.drop i) acc μ',
    ⟨_, rfl, Nat.zero_le _, [], [], μ1, upd_same, .nil, m1.fresh hD, g1.trans gD, m1.new hD, gD.g, hL⟩, fun i m H' hw => ?_⟩
  obtain ⟨rfl, hi, acc, us, μ', eD, rD, nD, g', m', gg, hl⟩ := hw
  by_cases hlt : i < it.items.length
  · rw [List.drop_eq_getElem_cons hlt] at hl
    obtain ⟨ok, hl⟩ := hl
    obtain ⟨go, hy⟩ := (hR i H' μ' gg m' ok).1 _ (List.getElem?_eq_getElem hlt)
    refine .inr ⟨go, fun H2 => ∃ acc us μ', H2 D = some (.lst us) ∧ RVs K H2 us acc ∧ μ' D = none ∧ Gr K μ H μ' H2 ∧ RM K H2 μ' ∧ Grow K H1 H2 ∧ loopC g tt te vs ρ it.ok Qc (it.items.drop (i + 1)) acc μ', fun H2 hN => ⟨it.items.length - (i + 1), by omega, rfl, hlt, hN⟩, fun x H2 y => ?_⟩
    obtain ⟨g2, m2, r2, k2⟩ := hy x H2 y
    refine ⟨_, wipeM ρ vs, μ', _, r2, ((rs.mono g'.g).mono g2.g).wipe vs, m2, hl, fun σ3 H3 ρ3 μ3 g3 rs3 m3 w3 q3 => ?_⟩
    refine ⟨w3.trans (wipe_wipe σ vs), ρ3, μ3, _, _, rs3, m3, q3, fun b H4 μ4 g4 m4 q4 => ?_, pxq0⟩
    have gB : Gr K μ' H2 μ4 H4 := g3.trans g4
    have gA : Gr K μ H μ4 H4 := (g'.trans g2).trans gB
    obtain ⟨eD4, nD4⟩ := gB.f D _ (k2 D _ eD) nD
    have rD4 : RVs K H4 us acc := (rD.mono g2.g).mono gB.g
    have gC : Grow K H1 H4 := (gg.trans g2.g).trans gB.g
    by_cases hb : b = true
    · rw [if_pos hb] at q4
      refine (if_pos hb).mpr ?_
      refine ⟨ρ3, μ4, _, _, rs3.mono g4.g, m4, q4, fun v5 H5 w5 μ5 g5 r5 m5 q5 => ?_, pxq0⟩
      obtain ⟨eD5, nD5⟩ := g5.f D _ eD4 nD4
      have gM : Grow K H5 (upd H5 D (.lst (us ++ [v5]))) := grow_mut eD5 trivial
      have gF : Gr K μ H μ5 (upd H5 D (.lst (us ++ [v5]))) := by
        refine ⟨((gA.trans g5).g).trans gM, fun a o ha na => ?_⟩
        rw [upd_ne (hD0 a o ha na)]
        exact (gA.trans g5).f a o ha na
      refine ⟨us, eD5, by rw [(rD4.mono g5.g).length]; exact q5.1, acc ++ [w5], us ++ [v5], μ5, upd_same, ((rD4.mono g5.g).append (.cons r5 .nil)).mono gM, nD5, gF, fun a o ha => ?_, (gC.trans g5.g).trans gM, q5.2⟩
      have hne : a ≠ D := fun z => by
        subst z
        rw [nD5] at ha
        cases ha
      exact (m5 a o ha).mono gM (upd_ne hne)
    · rw [if_neg hb] at q4
      refine (if_neg hb).mpr ?_
      exact ⟨acc, us, μ4, eD4, rD4, nD4, gA, m4, gC, q4⟩
  · rw [List.drop_of_length_le (by omega)] at hl
    exact .inl ⟨(hR i H' μ' gg m' hl.1).2 (by omega), hfin D H' us acc μ' eD rD g' nD hD0 m' hl.2⟩
end MP
set_option Elab.async false
set_option autoImplicit false
set_option linter.all false
set_option maxRecDepth 100000
namespace MP
open PySem PySem.Spec PyProof.Rows L2

/-! ### comprehensions, as rules -/
section
variable {X : Cx} {Wx : WX} {pos : Pos}
abbrev PTsm (X : Cx) (Wx : WX) (ifs : List Expr) (t : MT) : Prop := PTs X ifs (liftT X.K X.mg Wx t)
theorem mts_nil : PTsm X Wx [] tTrue := ⟨fun pins s σ H Q I h => pts_nil.run pins s σ H Q I (by
  obtain ⟨ρ, μ, Qm, Em, rs, rm, h, hq, _⟩ := h
  exact hq true H μ Gr.refl rm h)⟩
theorem mts_one {c : Expr} {t : MT} (h : PTm X Wx c t) : PTsm X Wx [c] t := pts_one h

theorem lc_gr {K : PySem.W.Frag} {H H2 : Hp} {μ μ2 : Mem} {D : Addr} {o : MO} (g2 : Gr K μ H μ2 H2) (hD : ∀ a o, H a = some o → μ a = none → a ≠ D) : Gr K μ H (updM μ2 D o) H2 := ⟨g2.g, fun a z ha na => by
  obtain ⟨h1, h2⟩ := g2.f a z ha na
  exact ⟨h1, by rw [updM_ne (hD a z ha na)]; exact h2⟩⟩
theorem lc_rm {K : PySem.W.Frag} {H2 : Hp} {μ2 : Mem} {D : Addr} {us : List V} {acc : List W} (m2 : RM K H2 μ2) (eD : H2 D = some (.lst us)) (rD : RVs K H2 us acc) : RM K H2 (updM μ2 D (.lst acc)) := fun b z eb => by
  by_cases e : b = D
  · subst e
    rw [updM_same] at eb
    cases eb
    exact ⟨us, eD, rD⟩
  · rw [updM_ne e] at eb
    exact m2 b z eb
variable {elt tg iter : Expr} {ifs : List Expr} {scope : Scope} {own : List (Str × Nat)} {mi : MI} {g : MG} {tt : MT} {te : ME}
theorem m_lc (hc : X.calm = true) (hN : X.N.Nodup) (hi : PIm X Wx tg iter mi) (ok : BlkOk X.N X.env.scope scope own)
    (hg : ∀ (s : Shared) (H : Hp) (C : Addr) (cl : List (Str × Addr)) (fp : List Addr), PGm (X.blk s H scope (compEnvC scope cl C X.env) fp) tg (own.map (·.2)) g)
    (ht : ∀ (s : Shared) (H : Hp) (C : Addr) (cl : List (Str × Addr)) (fp : List Addr), PTsm (X.blk s H scope (compEnvC scope cl C X.env) fp) W0 ifs tt)
    (he : ∀ (s : Shared) (H : Hp) (C : Addr) (cl : List (Str × Addr)) (fp : List Addr), PEm (X.blk s H scope (compEnvC scope cl C X.env) fp) W0 elt te)
    (hs : ∀ x, foldedSetIterable iter X.env x = pure x := by intro _; rfl) : PEm X Wx (.ListComp elt [⟨tg, iter, ifs, 0⟩] scope pos) (eLcI mi g tt te (own.map (·.2)) fList) := PE.imp (pe_lc hc hN hi ok hg ht he hs) fun σ H Q h => by
  obtain ⟨ρ, μ, Qm, Em, rs, rm, h, hq, he⟩ := h
  exact lc_lift rs rm h he fun D H2 us acc μ2 eD rD g2 nD hD m2 q2 => hq _ H2 _ (updM μ2 D (.lst acc)) (lc_gr g2 hD) (.ref D) (lc_rm m2 eD rD) (q2 D nD)
/-- a built-in of the list of a comprehension; the list itself is forgotten -/
def LF (f : List W → MQ → Mem → Prop) : Prop := ∀ acc Q μ ν, Sub ν μ → f acc Q ν → f acc (Dn Q) μ
theorem lf_tuple : LF fTuple := fun _ _ _ ν s h => ⟨ν, s, h⟩
theorem lf_sum : LF fSum := fun _ _ _ ν s ⟨ns, e, h⟩ => ⟨ns, e, ν, s, h⟩
theorem lf_all : LF fAll := fun _ _ _ ν s ⟨ns, e, h⟩ => ⟨ns, e, ν, s, h⟩
theorem lf_any : LF fAny := fun _ _ _ ν s ⟨ns, e, h⟩ => ⟨ns, e, ν, s, h⟩
theorem lf_max : LF fMax := fun _ _ _ ν s ⟨ns, e, l, h⟩ => ⟨ns, e, l, fun m h1 h2 => ⟨ν, s, h m h1 h2⟩⟩
theorem lf_min : LF fMin := fun _ _ _ ν s ⟨ns, e, l, h⟩ => ⟨ns, e, l, fun m h1 h2 => ⟨ν, s, h m h1 h2⟩⟩
def fLen : List W → MQ → Mem → Prop := fun xs Q μ => Q (.int xs.length) μ
theorem lf_len : LF fLen := fun _ _ _ ν s h => ⟨ν, s, h⟩
theorem sub_upd {μ : Mem} {p : Addr} {o : MO} (h : μ p = none) : Sub μ (updM μ p o) := fun a z e => by
  refine (updM_ne fun q => ?_).trans e
  subst q
  rw [h] at e
  cases e
theorem c_tupleL : CallR X (.type "tuple") (liftC X.K (oL fTuple)) := by
  intro pins s σ H vs us Q I rx h
  obtain ⟨xs, μ, Qm, r, m, h, hq⟩ := h
  refine c_tupleOf pins s σ H vs us Q I rx ⟨xs, μ, Qm, r, m, ?_, hq⟩
  unfold oL at h
  split at h
  · exact h
  · exact h.elim
theorem c_lenL : CallR X (.builtin "len") (liftC X.K (oL fLen)) := by
  intro pins s σ H vs us Q I rx h
  obtain ⟨xs, μ, Qm, r, m, h, hq⟩ := h
  refine c_len pins s σ H vs us Q I rx ⟨xs, μ, Qm, r, m, ?_, hq⟩
  unfold oL at h
  split at h
  · exact .inl h
  · exact h.elim
theorem m_lcB {f : List W → MQ → Mem → Prop} {x : Str} {p cpos : Pos} {id : String} (hf : LF f) (hb : CallR X (.builtin id) (liftC X.K (oL f))) (hgx : Gl X x) (hmx : X.mg x = none) (hvx : bootBuiltins x = some (.builtin id)) (hn : x ≠ "__name__") (hd : (x == ("__debug__" : Str)) = false)
    (hc : X.calm = true) (hN : X.N.Nodup) (hi : PIm X Wx tg iter mi) (ok : BlkOk X.N X.env.scope scope own)
    (hg : ∀ (s : Shared) (H : Hp) (C : Addr) (cl : List (Str × Addr)) (fp : List Addr), PGm (X.blk s H scope (compEnvC scope cl C X.env) fp) tg (own.map (·.2)) g)
    (ht : ∀ (s : Shared) (H : Hp) (C : Addr) (cl : List (Str × Addr)) (fp : List Addr), PTsm (X.blk s H scope (compEnvC scope cl C X.env) fp) W0 ifs tt)
    (he : ∀ (s : Shared) (H : Hp) (C : Addr) (cl : List (Str × Addr)) (fp : List Addr), PEm (X.blk s H scope (compEnvC scope cl C X.env) fp) W0 elt te)
    (hs : ∀ x, foldedSetIterable iter X.env x = pure x := by intro _; rfl) : PEm X Wx (.Call (.Name x p) [.ListComp elt [⟨tg, iter, ifs, 0⟩] scope pos] [] cpos) (eLcI mi g tt te (own.map (·.2)) f) :=
  by
    refine PE.imp (pe_callB hb hgx hmx hvx (pa_cons (pe_lc (g := liftG X.K (own.map (·.2)) g) (tt := liftT X.K X.mg W0 tt) (te := liftE X.K X.mg W0 te) hc hN hi ok hg ht he hs) pa_nil) hn hd) (fun σ H Q h => ?_)
    show tLc (liftI X.K X.mg Wx mi) (liftG X.K (own.map (·.2)) g) (liftT X.K X.mg W0 tt) (liftE X.K X.mg W0 te) (own.map (·.2)) σ H (fun x H1 => liftC X.K (oL f) [x] H1 Q)
    obtain ⟨ρ, μ, Qm, Em, rs, rm, h, hq, he⟩ := h
    refine lc_lift rs rm h he fun D H2 us acc μ2 eD rD g2 nD hD m2 q2 => ?_
    exact ⟨[.ref D], updM μ2 D (.lst acc), _, .cons (.ref D) .nil, lc_rm m2 eD rD, ⟨acc, .inl updM_same, hf _ _ _ _ (sub_upd nD) q2⟩, (hq.mono (lc_gr g2 hD)).dn⟩
theorem m_lcT {f : List W → MQ → Mem → Prop} {x : Str} {p cpos : Pos} {id : String} (hf : LF f) (hb : CallR X (.type id) (liftC X.K (oL f))) (hgx : Gl X x) (hmx : X.mg x = none) (hvx : bootBuiltins x = some (.type id)) (hn : x ≠ "__name__") (hd : (x == ("__debug__" : Str)) = false)
    (hc : X.calm = true) (hN : X.N.Nodup) (hi : PIm X Wx tg iter mi) (ok : BlkOk X.N X.env.scope scope own)
    (hg : ∀ (s : Shared) (H : Hp) (C : Addr) (cl : List (Str × Addr)) (fp : List Addr), PGm (X.blk s H scope (compEnvC scope cl C X.env) fp) tg (own.map (·.2)) g)
    (ht : ∀ (s : Shared) (H : Hp) (C : Addr) (cl : List (Str × Addr)) (fp : List Addr), PTsm (X.blk s H scope (compEnvC scope cl C X.env) fp) W0 ifs tt)
    (he : ∀ (s : Shared) (H : Hp) (C : Addr) (cl : List (Str × Addr)) (fp : List Addr), PEm (X.blk s H scope (compEnvC scope cl C X.env) fp) W0 elt te)
    (hs : ∀ x, foldedSetIterable iter X.env x = pure x := by intro _; rfl) : PEm X Wx (.Call (.Name x p) [.ListComp elt [⟨tg, iter, ifs, 0⟩] scope pos] [] cpos) (eLcI mi g tt te (own.map (·.2)) f) :=
  by
    refine PE.imp (pe_callTy hb hgx hmx hvx (pa_cons (pe_lc (g := liftG X.K (own.map (·.2)) g) (tt := liftT X.K X.mg W0 tt) (te := liftE X.K X.mg W0 te) hc hN hi ok hg ht he hs) pa_nil) hn hd) (fun σ H Q h => ?_)
    show tLc (liftI X.K X.mg Wx mi) (liftG X.K (own.map (·.2)) g) (liftT X.K X.mg W0 tt) (liftE X.K X.mg W0 te) (own.map (·.2)) σ H (fun x H1 => liftC X.K (oL f) [x] H1 Q)
    obtain ⟨ρ, μ, Qm, Em, rs, rm, h, hq, he⟩ := h
    refine lc_lift rs rm h he fun D H2 us acc μ2 eD rD g2 nD hD m2 q2 => ?_
    exact ⟨[.ref D], updM μ2 D (.lst acc), _, .cons (.ref D) .nil, lc_rm m2 eD rD, ⟨acc, .inl updM_same, hf _ _ _ _ (sub_upd nD) q2⟩, (hq.mono (lc_gr g2 hD)).dn⟩
/-- name = [..] -/
theorem ms_setLc {i : Nat} {y : Str} {py spos : Pos} (hc : X.calm = true) (hN : X.N.Nodup) (hy : X.N[i]? = some y) (hyl : X.env.scope.names.lookup y = some .local)
    (hsw : swapsWith (.ListComp elt [⟨tg, iter, ifs, 0⟩] scope pos) (some (.Name y py)) spos.line X.env = pure true) (hi : PIm X Wx tg iter mi) (ok : BlkOk X.N X.env.scope scope own)
    (hg : ∀ (s : Shared) (H : Hp) (C : Addr) (cl : List (Str × Addr)) (fp : List Addr), PGm (X.blk s H scope (compEnvC scope cl C X.env) fp) tg (own.map (·.2)) g)
    (ht : ∀ (s : Shared) (H : Hp) (C : Addr) (cl : List (Str × Addr)) (fp : List Addr), PTsm (X.blk s H scope (compEnvC scope cl C X.env) fp) W0 ifs tt)
    (he : ∀ (s : Shared) (H : Hp) (C : Addr) (cl : List (Str × Addr)) (fp : List Addr), PEm (X.blk s H scope (compEnvC scope cl C X.env) fp) W0 elt te)
    (hs : ∀ x, foldedSetIterable iter X.env x = pure x := by intro _; rfl) : PSm X Wx (.Assign [.Name y py] (.ListComp elt [⟨tg, iter, ifs, 0⟩] scope pos) spos) (sAsg (eLcI mi g tt te (own.map (·.2)) fList) (gNm i)) :=
  PS.imp (ps_setLc hc hN hy hyl hsw hi ok hg ht he hs) fun D σ H h => by
    obtain ⟨ρ, μ, Dm, Em, rs, rm, h, hn, hr, hb, hc, he⟩ := h
    exact lc_lift rs rm h (he.ex rs) fun D2 H2 us acc μ2 eD rD g2 nD hD m2 q2 => hn _ H2 _ (updM μ2 D2 (.lst acc)) (lc_gr g2 hD) ((rs.mono g2.g).set i (.ref D2)) (lc_rm m2 eD rD) (q2 D2 nD)
end

/-! ### slices -/
def cutW (xs : List W) (lo hi : Option Int) : List W := (xs.drop (HT.sIx xs.length 0 lo)).take (HT.sIx xs.length xs.length hi - HT.sIx xs.length 0 lo)
abbrev MO' := MEnv → Mem → (Option Int → Mem → Prop) → MXK → Prop
def pSome (m : ME) : MO' := fun ρ μ Q E => m ρ μ (fun x μ1 => ∃ i, x = .int i ∧ Q (some i) μ1) E
def pNone : MO' := fun _ μ Q _ => Q none μ
/-- xs[lo:hi] of a tuple -/
def eSl (m : ME) (l h : MO') : ME := fun ρ μ Q E => m ρ μ (fun x μ1 => l ρ μ1 (fun lo μ2 => h ρ μ2 (fun hi μ3 => match x with
  | .tup xs => Q (.tup (cutW xs lo hi)) μ3
  | .ref a => ∃ xs, (μ3 a = some (.lst xs) ∨ μ3 a = some (.rol xs)) ∧ ∀ p, μ3 p = none → Q (.ref p) (updM μ3 p (.lst (cutW xs lo hi)))
  | _ => False) E) E) E
def liftO (K : PySem.W.Frag) (mg : Str → Option Value) (Wx : WX) (m : MO') : TO := fun σ H Q => ∃ ρ μ Qm Em, RS K H σ ρ ∧ RM K H μ ∧ m ρ μ Qm Em ∧ (∀ o H' μ', Gr K μ H μ' H' → RM K H' μ' → Qm o μ' → Q o H') ∧ PXq K mg μ H Em (fun cls d H' => Wx cls d σ H')
abbrev POm (X : Cx) (Wx : WX) (e : Option Expr) (m : MO') : Prop := PO X e (liftO X.K X.mg Wx m)
theorem PO.imp {X : Cx} {e : Option Expr} {t t' : TO} (h : PO X e t) (q : ∀ σ H R, t' σ H R → t σ H R) : PO X e t' := ⟨fun pins s σ H R I z => h.run pins s σ H R I (q σ H R z)⟩
section
variable {X : Cx} {Wx : WX} {pos : Pos} {e : Expr} {m : ME}
theorem mo_some (h : PEm X Wx e m) : POm X Wx (some e) (pSome m) := PO.imp (po_some h) fun σ H Q h => by
  obtain ⟨ρ, μ, Qm, Em, rs, rm, h, hq, he⟩ := h
  refine ⟨ρ, μ, _, Em, rs, rm, h, fun v H1 x μ1 g1 r1 m1 ⟨i, ei, q1⟩ => ?_, he⟩
  subst ei
  cases r1
  exact ⟨i, rfl, hq _ H1 μ1 g1 m1 q1⟩
theorem mo_none : POm X Wx none pNone := PO.imp po_none fun σ H Q h => by
  obtain ⟨ρ, μ, Qm, Em, rs, rm, h, hq, he⟩ := h
  exact hq _ H μ Gr.refl rm h
theorem cut_rel {K : PySem.W.Frag} {H : Hp} {vs : List V} {ws : List W} (r : RVs K H vs ws) (lo hi : Option Int) : RVs K H (cutV vs lo hi) (cutW ws lo hi) := by
  unfold cutV cutW
  rw [r.length]
  exact (r.drop _).take _
theorem m_slice {lo hi : Option Expr} {l h : MO'} {p2 : Pos} (he : PEm X Wx e m) (hl : POm X Wx lo l) (hh : POm X Wx hi h) : PEm X Wx (.Subscript e (.Slice lo hi none p2) pos) (eSl m l h) := PE.imp (pe_slice (SlR.or sl_tupA sl_list) he hl hh) fun σ H Q h => by
  obtain ⟨ρ, μ, Qm, Em, rs, rm, h, hq, he⟩ := h
  refine ⟨ρ, μ, _, Em, rs, rm, h, fun v H1 x μ1 g1 r1 m1 q1 => ?_, he⟩
  refine ⟨ρ, μ1, _, Em, rs.mono g1.g, m1, q1, fun lo' H2 μ2 g2 m2 q2 => ?_, he.mono g1⟩
  refine ⟨ρ, μ2, _, Em, rs.mono (g1.trans g2).g, m2, q2, fun hi' H3 μ3 g3 m3 q3 => ?_, he.mono (g1.trans g2)⟩
  have r3 := r1.mono (g2.trans g3).g
  have g := g1.trans (g2.trans g3)
  cases r3 with
  | tup s1 t1 =>
    rename_i vs ws
    refine .inl ⟨_, vs, rfl, sqT_of s1, fun hw => ?_, fun _ p hp => ?_⟩
    · have ew : cutW ws lo' hi' = ws := by
        unfold cutW
        rw [← t1.length, hw.1, hw.2]
        simp [t1.length]
      have q4 : Qm (.tup (cutW ws lo' hi')) μ3 := q3
      rw [ew] at q4
      exact hq _ H3 _ μ3 g (.tup s1 t1) m3 q4
    · exact hq _ _ _ μ3 (g.trans (Gr.new0 hp)) (.tup upd_same ((cut_rel t1 lo' hi').mono (grow_new hp))) (m3.new hp) q3
  | ref a =>
    obtain ⟨xs, e1, q3⟩ := q3
    obtain ⟨us, s1, t1⟩ := seq_of m3 e1
    exact .inr ⟨_, us, rfl, s1, fun p hp => hq _ _ _ _ (g.trans (Gr.new hp)) (.ref p) (m3.put (o := .lst _) (grow_new hp) ⟨_, upd_same, (cut_rel t1 lo' hi').mono (grow_new hp)⟩) (q3 p (m3.fresh hp))⟩
  | non => exact q3.elim
  | bl b => exact q3.elim
  | int b => exact q3.elim
  | str b => exact q3.elim
  | ty b => exact q3.elim
  | rl _ _ => exact q3.elim
end
end MP
set_option Elab.async false
set_option autoImplicit false
set_option linter.all false
set_option maxRecDepth 100000
namespace MP
open PySem PySem.Spec PyProof.Rows L2

/-! ### raise X(), try with clauses -/
section
variable {X : Cx} {Wx : WX} {pos : Pos}
/-- X(), an own exception class without own __init__ -/
theorem pmk_0 {C : Addr} {bmB : List Value} {B newId initId : String} {x : Str} {p : Pos} (F : ExcBaseFacts B newId initId bmB) (hx : PySem.W.excIn X.K C bmB newId = true) (gC : X.mg x = some (.ref C)) (kC : PySem.W.keepIn X.K (.ref C) = true) (rC : Raises X (.ref C)) (hg : Gl X x)
    (hdb : (x == ("__debug__" : Str)) = false := by decide) : PMk X (.Call (.Name x p) [] [] pos) (fun _ H Q => Q (.ref C) none H) := fun pins s σ H Q I h =>
  wpAny_Call_Name_kw (ld_glob I hg gC (PySem.W.callWith_K0 I.kIn kC (by
    show wpAny _ _ (call (.ref C) []) _ _ _
    obtain ⟨bm, N, nm, qn, bs, hdct, sn, sub, ab, col, dd, k0, k1, k2, k3, k5, mN, hC, hN, hni, T⟩ := exc_obj I.kIn hx
    exact wpAny_call_exc_subT F T hC hN hni (fun h' e hm => mk_of I hm rC h (I.hok.gone hm.new)) (Nat.zero_le _))) hdb)
/-- an exception class of the program -/
structure ExcOk (X : Cx) (x : Str) : Prop where
  ok : ∃ C, X.mg x = some (.ref C) ∧ PySem.W.keepIn X.K (.ref C) = true ∧ Raises X (.ref C) ∧ PySem.W.excIn X.K C [.type "ValueError", .type "Exception", .type "BaseException", .type "object"] "ValueError.__new__" = true
def sRaise0 (x : Str) : MS := fun ρ μ _ E => E ⟨x, none⟩ ρ μ
theorem ms_raise0 {x : Str} {p p2 : Pos} (G : Good X Wx) (hx : ExcOk X x) (hg : Gl X x) (hd : (x == ("__debug__" : Str)) = false) : PSm X Wx (.Raise (some (.Call (.Name x p) [] [] p2)) none pos) (sRaise0 x) := by
  obtain ⟨C, h1, h2, h3, h4⟩ := hx.ok
  refine PS.imp (ps_raise G.calm G.tk (pmk_0 PySem.F.excBase_ValueError h4 h1 h2 h3 hg hd)) fun D σ H h => ?_
  obtain ⟨ρ, μ, Dm, Em, rs, rm, h, _, _, _, _, he⟩ := h
  exact he _ H σ ρ μ (.ref C) none Gr.refl rs ⟨h1, by intro w e; cases e⟩ rm h

/-- the classes named, told apart by except -/
def XTab (X : Cx) (ns : List Str) : Prop := ∀ a ∈ ns, ∀ b ∈ ns, ∃ ca cb, X.mg a = some ca ∧ X.mg b = some cb ∧ PySem.W.exmOne X.K ca cb = some (decide (a = b))
def handle (x : MX) (ρ : MEnv) (μ : Mem) (D : MEnds) (E : MXS) : List (Str × MS) → Prop
  | [] => E x ρ μ
  | (n, s) :: r => if x.name = n then s ρ μ D (fun _ _ _ => False) else handle x ρ μ D E r
def sTry (ns : List Str) (m : MS) (cl : List (Str × MS)) : MS := fun ρ μ D E => m ρ μ D (fun x ρ1 μ1 => x.name ∈ ns ∧ handle x ρ1 μ1 D E cl)
inductive HdsM (X : Cx) (ns : List Str) : List ExceptHandler → List (Str × MS) → Prop
  | nil : HdsM X ns [] []
  | cons {x : Str} {s : MS} {b₀ : Stmt} {suite : List Stmt} {np p2 : Pos} {hds : List ExceptHandler} {cl : List (Str × MS)} (hn : x ∈ ns) (hg : Gl X x) (hd : (x == ("__debug__" : Str)) = false)
      (hs : ∀ (a : Addr) (pn : List (Addr × Obj)), PSsm (X.suite a pn) W0 (b₀ :: suite) s) (r : HdsM X ns hds cl) : HdsM X ns (.ExceptHandler (some (.Name x np)) none (b₀ :: suite) p2 :: hds) ((x, s) :: cl)
theorem hds_ok {ns : List Str} (T : XTab X ns) : ∀ {hds : List ExceptHandler} {cl : List (Str × MS)}, HdsM X ns hds cl → ∃ l, HdsOk X hds l ∧ ∀ (D : Ends) (Dm : MEnds) (Em : MXS) (x : MX) (cls : Value) (d : Option Addr) (σ : L2.St) (H : Hp) (ρ : MEnv) (μ : Mem), x.name ∈ ns → RX X.K X.mg H cls d x → RS X.K H σ ρ → RM X.K H μ →
    PN X.K μ H Dm.nx D.nx → PQ X.K μ H Dm.rt D.rt → PN X.K μ H Dm.bk D.bk → PN X.K μ H Dm.ct D.ct → PXs X.K X.mg Wx μ H Em → handle x ρ μ Dm Em cl → wMany X.K Wx D l cls d σ H
  | _, _, .nil => ⟨[], .nil, fun D Dm Em x cls d σ H ρ μ _ rx rs rm _ _ _ _ he h => he x H σ ρ μ cls d Gr.refl rs rx rm h⟩
  | _, _, .cons (x := n) (s := s) hn hg hd hs r => by
    obtain ⟨l, hl, hw⟩ := hds_ok T r
    obtain ⟨cn, _, en, _, _⟩ := T n hn n hn
    refine ⟨(cn, fun _ _ _ => liftS X.K X.mg W0 s) :: l, .cons ⟨hg, hd, .inl en⟩ (fun a oe cls d pn _ _ => hs a _) hl, fun D Dm Em x cls d σ H ρ μ hx rx rs rm h1 h2 h3 h4 he h => ?_⟩
    obtain ⟨ca, cb, e1, e2, ex⟩ := T _ hx n hn
    have ea : ca = cls := Option.some.inj (e1.symm.trans rx.1)
    have eb : cb = cn := Option.some.inj (e2.symm.trans en)
    subst ea eb
    refine ⟨_, ex, fun hb a ha => ?_, fun hb => ?_⟩
    · have e := of_decide_eq_true hb
      unfold handle at h
      rw [if_pos e] at h
      exact ⟨ρ, μ, Dm, _, rs, rm, h, h1, h2, h3, h4, fun _ _ _ _ _ _ _ _ _ _ _ z => z.elim⟩
    · have e := of_decide_eq_false hb
      unfold handle at h
      rw [if_neg e] at h
      exact hw D Dm Em x ca d σ H ρ μ hx rx rs rm h1 h2 h3 h4 he h
theorem ms_try {ns : List Str} {body : List Stmt} {h₀ : ExceptHandler} {hds : List ExceptHandler} {cl : List (Str × MS)} {m : MS} (G : Good X Wx) (hs : X.stack = X.env :: X.outer) (hf : X.env.frame = some X.env.locals) (T : XTab X ns)
    (hb : ∀ (W : WX) (pn : List (Addr × Obj)) (xe : Value → Shared → Prop), Takes (X.tr pn xe) W → PassesOwn (model X.prog X.w) X.A X.env xe → PSsm (X.tr pn xe) W body m) (hh : HdsM X ns (h₀ :: hds) cl) : PSm X Wx (.Try body (h₀ :: hds) [] [] pos) (sTry ns m cl) := by
  obtain ⟨l, hl, hw⟩ := hds_ok (Wx := Wx) T hh
  refine PS.imp (ps_try_many (tb := fun W => liftS X.K X.mg W m) hs hf G.tk (fun W pn xe tk po => hb W pn xe tk po) hl) fun D σ H h => ?_
  obtain ⟨ρ, μ, Dm, Em, rs, rm, h, h1, h2, h3, h4, he⟩ := h
  exact ⟨ρ, μ, Dm, _, rs, rm, h, h1, h2, h3, h4, fun x H' σ' ρ' μ' cls d g rs' rx rm' hx => hw D Dm Em x cls d σ' H' ρ' μ' hx.1 rx rs' rm' (h1.mono g) (h2.mono g) (h3.mono g) (h4.mono g) (he.mono g) hx.2⟩
end

/-! ### objects of the program's classes -/
def putW (f : Str) (w : W) : List (Str × W) → List (Str × W)
  | [] => [(f, w)]
  | (g, x) :: r => if g = f then (g, w) :: r else (g, x) :: putW f w r
def eFld (f : Str) (C : Addr) (a : ME) : ME := fun ρ μ Q E => a ρ μ (fun x μ1 => ∃ p dx fs w, x = .ref p ∧ μ1 p = some (.ins C dx fs) ∧ fs.lookup f = some w ∧ Q w μ1) E
def sFldM (f : Str) (C : Addr) (a v : ME) : MS := fun ρ μ D E => v ρ μ (fun w μ1 => a ρ μ1 (fun x μ2 => ∃ p dx fs, x = .ref p ∧ μ2 p = some (.ins C dx fs) ∧ fs.length < 1000 ∧ D.nx ρ (updM μ2 p (.ins C dx (putW f w fs)))) (fun x μ' => E x ρ μ')) (fun x μ' => E x ρ μ')
def sFldAugM (f : Str) (C : Addr) (r : O2) (a v : ME) : MS := fun ρ μ D E => a ρ μ (fun x μ1 => ∃ p dx fs w, x = .ref p ∧ μ1 p = some (.ins C dx fs) ∧ fs.lookup f = some w ∧ v ρ μ1 (fun y μ2 => r w y μ2 fun z μ3 => ∃ dx' fs', μ3 p = some (.ins C dx' fs') ∧ fs'.length < 1000 ∧ D.nx ρ (updM μ3 p (.ins C dx' (putW f z fs')))) (fun x μ' => E x ρ μ')) (fun x μ' => E x ρ μ')
def eMeth (C : Addr) (m : Str) (S : MSp) (a : ME) (t : MA) : ME := fun ρ μ Q E => a ρ μ (fun x μ1 => ∃ p dx fs, x = .ref p ∧ μ1 p = some (.ins C dx fs) ∧ fs.lookup m = none ∧ t ρ μ1 (fun ws μ2 => callM S (.ref p :: ws) μ2 Q E) E) E
def eMake (C : Addr) (S : MSp) (t : MA) : ME := fun ρ μ Q E => t ρ μ (fun ws μ1 => ∀ p dx, μ1 p = none → callM S (.ref p :: ws) (updM μ1 p (.ins C dx [])) (fun v μ2 => v = .non ∧ Q (.ref p) μ2) noX) E

section
variable {X : Cx} {Wx : WX} {pos apos : Pos} {e o : Expr} {es : List Expr} {ma mv : ME} {mt : MA} {C : Addr} {f : Str}
theorem rk_lookup {K : PySem.W.Frag} {H : Hp} : ∀ {gs : List (Str × V)} {fs : List (Str × W)} {w : W}, RK K H gs fs → fs.lookup f = some w → ∃ v, gs.lookup f = some v ∧ RV K H v w
  | _, _, _, .nil, e => by cases e
  | _, _, w, .cons (k := k) r t, e => by
    rw [List.lookup_cons] at e ⊢
    by_cases h : (f == k) = true
    · rw [h] at e ⊢
      cases e
      exact ⟨_, rfl, r⟩
    · rw [Bool.eq_false_iff.mpr h] at e ⊢
      exact rk_lookup t e
theorem rk_lookup_none {K : PySem.W.Frag} {H : Hp} : ∀ {gs : List (Str × V)} {fs : List (Str × W)}, RK K H gs fs → fs.lookup f = none → gs.lookup f = none
  | _, _, .nil, _ => rfl
  | _, _, .cons (k := k) r t, e => by
    rw [List.lookup_cons] at e ⊢
    by_cases h : (f == k) = true
    · rw [h] at e
      cases e
    · rw [Bool.eq_false_iff.mpr h] at e ⊢
      exact rk_lookup_none t e
theorem rk_put {K : PySem.W.Frag} {H : Hp} {v : V} {w : W} (r : RV K H v w) : ∀ {gs : List (Str × V)} {fs : List (Str × W)}, RK K H gs fs → RK K H (putF f v gs) (putW f w fs)
  | _, _, .nil => .cons r .nil
  | _, _, .cons (k := k) q t => by
    show RK K H (if k = f then _ else _) (if k = f then _ else _)
    by_cases h : k = f
    · rw [if_pos h, if_pos h]
      exact .cons r t
    · rw [if_neg h, if_neg h]
      exact .cons q (rk_put r t)
theorem m_fld (c : Cls X.K C) (n : NoAttr X.K C f) (ha : PEm X Wx e ma) (hb : attributeBase e f X.env (eval e X.env) = eval e X.env) : PEm X Wx (.Attribute e f pos) (eFld f C ma) := PE.imp (pe_fld ha hb) fun σ H Q h => by
  obtain ⟨ρ, μ, Qm, Em, rs, rm, h, hq, he⟩ := h
  refine ⟨ρ, μ, _, Em, rs, rm, h, fun v H1 x μ1 g1 r1 m1 ⟨p, dx, fs, w, e1, e2, e3, q1⟩ => ?_, he⟩
  subst e1
  cases r1
  obtain ⟨gs, h1, h2⟩ := m1 p _ e2
  obtain ⟨v2, h3, h4⟩ := rk_lookup h2 e3
  exact ⟨p, C, dx, gs, v2, rfl, h1, c, n, h3, hq _ H1 _ μ1 g1 h4 m1 q1⟩
theorem ms_fld {p2 : Pos} (c : Cls X.K C) (n : NoAttr X.K C f) (ha : PEm X Wx o ma) (hv : PEm X Wx e mv) (hs : swapsWith e (some (.Attribute o f p2)) pos.line X.env = pure false) : PSm X Wx (.Assign [.Attribute o f p2] e pos) (sFldM f C ma mv) := PS.imp (ps_fld ha hv hs) fun D σ H h => by
  obtain ⟨ρ, μ, Dm, Em, rs, rm, h, hn, _, _, _, he⟩ := h
  refine ⟨ρ, μ, _, _, rs, rm, h, fun v H1 w μ1 g1 r1 m1 q1 => ?_, he.ex rs⟩
  refine ⟨ρ, μ1, _, _, rs.mono g1.g, m1, q1, fun v2 H2 x μ2 g2 r2 m2 ⟨p, dx, fs, e1, e2, e3, q2⟩ => ?_, (he.mono g1).ex (rs.mono g1.g)⟩
  subst e1
  cases r2
  obtain ⟨gs, h1, h2⟩ := m2 p _ e2
  have g3 : Gr X.K μ2 H2 (updM μ2 p (.ins C dx (putW f w fs))) (upd H2 p (.ins C dx (putF f v gs))) := Gr.mut h1 trivial e2
  exact ⟨p, C, dx, gs, rfl, h1, c, n, by rw [h2.length]; exact e3, hn σ _ ρ _ (g1.trans (g2.trans g3)) (rs.mono (g1.trans (g2.trans g3)).g) (m2.put (o := .ins C dx (putW f w fs)) g3.g ⟨_, upd_same, (rk_put (r1.mono g2.g) h2).mono g3.g⟩) q2⟩
theorem ms_fldaug {p2 : Pos} {op : Operator} {r : O2} (c : Cls X.K C) (n : NoAttr X.K C f) (ho : InOp X op (lift2 X.K r)) (ha : PEm X Wx o ma) (hv : PEm X Wx e mv) : PSm X Wx (.AugAssign (.Attribute o f p2) op e pos) (sFldAugM f C r ma mv) := PS.imp (ps_fldaug ha hv ho) fun D σ H h => by
  obtain ⟨ρ, μ, Dm, Em, rs, rm, h, hn, _, _, _, he⟩ := h
  refine ⟨ρ, μ, _, _, rs, rm, h, fun v H1 x μ1 g1 r1 m1 ⟨p, dx, fs, w, e1, e2, e3, q1⟩ => ?_, he.ex rs⟩
  subst e1
  cases r1
  obtain ⟨gs, h1, h2⟩ := m1 p _ e2
  obtain ⟨v2, h3, h4⟩ := rk_lookup h2 e3
  refine ⟨p, C, dx, gs, v2, rfl, h1, c, n, h3, ρ, μ1, _, _, rs.mono g1.g, m1, q1, fun u2 H2 y μ2 g2 r2 m2 q2 => ?_, (he.mono g1).ex (rs.mono g1.g)⟩
  refine ⟨w, y, μ2, _, h4.mono g2.g, r2, m2, q2, fun u3 H3 z μ3 g3 r3 m3 ⟨dx', fs', e4, e5, q3⟩ => ?_⟩
  obtain ⟨gs', h5, h6⟩ := m3 p _ e4
  have g4 : Gr X.K μ3 H3 (updM μ3 p (.ins C dx' (putW f z fs'))) (upd H3 p (.ins C dx' (putF f u3 gs'))) := Gr.mut h5 trivial e4
  have gA := g1.trans (g2.trans (g3.trans g4))
  exact ⟨dx', gs', h5, by rw [h6.length]; exact e5, hn σ _ ρ _ gA (rs.mono gA.g) (m3.put (o := .ins C dx' (putW f z fs')) g4.g ⟨_, upd_same, (rk_put r3 h6).mono g4.g⟩) q3⟩
/-- o.m(e, ..), an own method that may raise -/
theorem m_meth {S : MSp} {k : Nat} {g : Addr} {fd : FuncData} {ps : List Str} {m : Str} (F : FnOk X.prog X.w X.K X.mg X.base (CX X.prog X.w) k g fd ps (spM X.K X.mg S)) (G : Good X Wx) (hr : Room k X.A) (c : Cls X.K C) (hm : Meth X.K C m g) (hb : Binds X.K fd ps [])
    (ho : PEm X Wx o ma) (ha : PAm X Wx (e :: es) mt) (hab : attributeBase o m X.env (eval o X.env) = eval o X.env) (hst : starEach (e :: es) X.env = (false, eval e X.env) :: starEach es X.env) (hpl : (backTo pos (starEach es X.env)).any (·.1) = false)
    (pl : Sem Bool) (ht : eval (.Call (.Attribute o m apos) (e :: es) [] pos) X.env = (do
      let ov ← eval o X.env
      standAt apos.atName
      let (f, first) ← holding [ov] (getMethod ov m pl)
      callWith pos f first (backTo pos (starEach (e :: es) X.env)) (backToKw pos (keywordEach [] X.env)))) : PEm X Wx (.Call (.Attribute o m apos) (e :: es) [] pos) (eMeth C m S ma mt) := ⟨fun pins s σ H Q I h => by
  obtain ⟨ρ, μ, Qm, Em, rs, rm, h, hq, he⟩ := h
  refine methcall_of (te := liftE X.K X.mg Wx ma) ho I ?_ ht
  refine ⟨ρ, μ, _, Em, rs, rm, h, fun v H1 x μ1 g1 r1 m1 ⟨p, dx, fs, e1, e2, e3, q1⟩ => ?_, he⟩
  subst e1
  cases r1
  obtain ⟨gs, h1, h2⟩ := m1 p _ e2
  refine ⟨p, C, dx, gs, g, rfl, h1, c, hm, rk_lookup_none h2 e3, fun s1 I1 => ?_⟩
  refine PySem.W.callWith_K (first := [.ref p]) (h₀ := X.base) I1.ok.mod.kin hm.kp (thn (ha.run pos pins s1 σ H1 (fun vs H2 => ∃ ws μ2, Gr X.K μ1 H1 μ2 H2 ∧ RVs X.K H2 vs ws ∧ RM X.K H2 μ2 ∧ callM S (.ref p :: ws) μ2 Qm Em) I1 ⟨ρ, μ1, _, Em, rs.mono g1.g, m1, q1, fun vs H2 ws μ2 g2 r2 m2 q2 => ⟨ws, μ2, g2, r2, m2, q2⟩, he.mono g1⟩)
    fun us s2 ⟨vs, H2, I2, rel, ws, μ2, g2, r2, m2, q2⟩ => ⟨I2.kIn, ?_⟩) hst hpl
  exact run_fnS (us := .ref p :: us) (vs := .ref p :: vs) F hr hb (passAt G.tk σ) I2 (.cons rfl rel) (callM_sp (.cons (.ref p) r2) m2 q2 (hq.mono (g1.trans g2)) (he.mono (g1.trans g2)))⟩
/-- C(e, ..), an object of an own class -/
theorem m_make {S : MSp} {k : Nat} {g : Addr} {fd : FuncData} {ps : List Str} {x : Str} {p : Pos} (M : Mk X.K C g) (F : FnOk X.prog X.w X.K X.mg X.base (CX X.prog X.w) k g fd ps (spM X.K X.mg S)) (hr : Room (k + 1) X.A) (hg : Gl X x) (hm : X.mg x = some (.ref C)) (hb : Binds X.K fd ps [])
    (ha : PAm X Wx (e :: es) mt) (hd : (x == ("__debug__" : Str)) = false := by decide) (hst : starEach (e :: es) X.env = (false, eval e X.env) :: starEach es X.env := by rfl) (hpl : (backTo pos (starEach es X.env)).any (·.1) = false := by rfl) : PEm X Wx (.Call (.Name x p) (e :: es) [] pos) (eMake C S mt) :=
  PE.imp (pe_make M F hr hg hm hb .nil passL ha hd hst hpl) fun σ H Q h => by
    obtain ⟨ρ, μ, Qm, Em, rs, rm, h, hq, he⟩ := h
    refine ⟨ρ, μ, _, Em, rs, rm, h, fun vs H1 ws μ1 g1 r1 m1 q1 => ?_, he⟩
    intro y dx hy hdx hne
    rw [List.append_nil]
    have hy2 : upd H1 dx (.own y) y = none := by rw [upd_ne (Ne.symm hne)]; exact hy
    have gA : Gr X.K μ1 H1 μ1 (upd H1 dx (.own y)) := Gr.new0 hdx
    have gB : Gr X.K μ1 (upd H1 dx (.own y)) (updM μ1 y (.ins C dx [])) (upd (upd H1 dx (.own y)) y (.ins C dx [])) := Gr.new hy2
    have gC := gA.trans gB
    refine callM_sp (.cons (.ref y) (r1.mono gC.g)) ((m1.new hdx).put (o := .ins C dx []) gB.g ⟨[], upd_same, .nil⟩) (q1 y dx (m1.fresh hy)) (fun v H2 w μ2 g2 r2 m2 ⟨ew, q2⟩ => ?_) pxq0
    subst ew
    cases r2
    exact ⟨rfl, hq _ H2 _ μ2 (g1.trans (gC.trans g2)) (.ref y) m2 q2⟩
end
end MP
set_option Elab.async false
set_option autoImplicit false
set_option linter.all false
set_option maxRecDepth 100000
namespace MP
open PySem PySem.Spec PyProof.Rows L2

/-! ### the text, as a tree of rules -/
mutual
inductive XE where
  | var (i : Nat) | int (i : Int) | bl (b : Bool) | non | str (x : Str) | glob (j : Nat)
  | tup (a : XA) | lst (a : XA) | bop (j : Nat) (a b : XE) | neg (a : XE) | cop (j : Nat) (a b : XE) | chn (j j' : Nat) (a b c : XE)
  | ands (l : XA) | ors (l : XA) | not (a : XE) | ite (c : XT) (a b : XE) | ix (j : Nat) (a b : XE) | sl (a : XE) (l h : XO)
  | call (j : Nat) (a : XA) | bc (j : Nat) (a : XA) | isi (T : String) (e : XE) | bm (j : Nat) (o : XE) (a : XA) | bm0 (j : Nat) (o : XE)
  | fld (c : Nat) (f : Str) (o : XE) | meth (c j : Nat) (m : Str) (o : XE) (a : XA) | make (c : Nat) (a : XA)
  | lc (it : XI) (g : XG) (t : XTs) (e : XE) (own : List (Str × Nat)) | lcb (j : Nat) (it : XI) (g : XG) (t : XTs) (e : XE) (own : List (Str × Nat))
  | spc (j : Nat) (a : XA)
  /-- {}: by flat keys, by flat tuples -/
  | dk0 | dt0
  /-- {"x": j} -/
  | dkc (x : Str) (j : Int)
  /-- a def that a name of the def's own holds; isinstance(e, (T, ..)) -/
  | callv (i : Nat) (a : XA) | isit (Ts : List String) (e : XE)
inductive XA where
  | nil | cons (e : XE) (r : XA)
inductive XT where
  | val (e : XE) | cop (j : Nat) (a b : XE) | ands (l : XTs) | ors (l : XTs) | not (t : XT)
inductive XTs where
  | nil | cons (t : XT) (r : XTs)
inductive XO where
  | none | some (e : XE)
inductive XG where
  | nm (i : Nat) | tup (l : XGs) | sub (j : Nat) (o i : XE)
inductive XGs where
  | nil | cons (g : XG) (r : XGs)
inductive XI where
  | seq (e : XE) | fn (j : Nat) (a : XA)
end
mutual
inductive XS where
  | expr (e : XE) | ret (e : XE) | retN | iff (t : XT) (a b : XSs) | asg (e : XE) (g : XG) | aug (i j : Nat) (e : XE)
  | for_ (it : XI) (g : XG) (vs : List Nat) (b : XSs) | whl (t : XT) (b : XSs) | pass | brk | cnt | raise0 (x : Str)
  | fldS (c : Nat) (f : Str) (o v : XE) | fldA (c : Nat) (f : Str) (j : Nat) (o v : XE)
  | par2 (i j : Nat) (a : XA) | par3 (i j l : Nat) (a : XA) | setLc (i : Nat) (it : XI) (g : XG) (t : XTs) (e : XE) (own : List (Str × Nat)) | try_ (ns : List Str) (b : XSs) (hs : List (Str × W))
  /-- a statement that walks over the dict in slot i -/
  | lock (i : Nat) (s : XS)
inductive XSs where
  | nil | cons (s : XS) (r : XSs)
end

/-- methods of a built-in type: its name, the method's, the reading -/
structure BM where
  T : String
  name : Str
  id : String
  r : W → List W → Mem → MQ → Prop
/-- a form of expression of its own: what it looks like, what it means by its parts -/
structure Spc where
  names : List Str
  look : Expr → Option (List Expr)
  r : OC
/-- what makes rows to be walked: its name, whether the target is a tuple, how many arguments -/
structure ITb where
  name : Str
  tup : Bool
  ar : Nat
  r : List W → Mem → (MIt → Mem → Prop) → Prop
structure Lib where
  fns : List (Option Str)
  cst : List (Str × W)
  bops : List (Operator × O2)
  augs : List (Operator × O2)
  cops : List (CmpOp × O2)
  ixs : List O2
  sets : List (W → W → W → Mem → (Mem → Prop) → Prop)
  bcs : List (Str × OC)
  lfs : List (Str × (List W → MQ → Mem → Prop))
  bms : List BM
  its : List ITb
  cls : List (Str × Addr × Nat)
  meths : List (Nat × Str × Nat)
  attrs : List (Nat × Str)
  excs : List Str
  spcs : List Spc
  tyns : List Str
  /-- defs that are handed about: the address, the def's number -/
  dfs : List (Addr × Nat)

/-! ### what it means -/
def liftSet (K : PySem.W.Frag) (r : W → W → W → Mem → (Mem → Prop) → Prop) : TSet := fun o i v H Q => ∃ wo wi wv μ Qm, RV K H o wo ∧ RV K H i wi ∧ RV K H v wv ∧ RM K H μ ∧ r wo wi wv μ Qm ∧ ∀ H' μ', Gr K μ H μ' H' → RM K H' μ' → Qm μ' → Q H'
def gSb (mo mi : ME) (r : W → W → W → Mem → (Mem → Prop) → Prop) : MG := fun w ρ μ Q => mo ρ μ (fun o μ1 => mi ρ μ1 (fun i μ2 => r o i w μ2 fun μ3 => Q ρ μ3) noX) noX
def tyM (T : String) (x : W) (μ : Mem) : Prop := match x with
  | .str _ => T = "str"
  | .int _ => T = "int"
  | .ref p => (T = "list" ∧ ∃ xs, μ p = some (.lst xs) ∨ μ p = some (.rol xs)) ∨ (T = "dict" ∧ ((∃ kvs, μ p = some (.dk kvs)) ∨ ∃ kvs, μ p = some (.dt kvs)))
  | _ => False
def eBM (b : BM) (o : ME) (t : MA) : ME := fun ρ μ Q E => o ρ μ (fun x μ1 => tyM b.T x μ1 ∧ t ρ μ1 (fun ws μ2 => b.r x ws μ2 Q) E) E
def eBM0 (b : BM) (o : ME) : ME := fun ρ μ Q E => o ρ μ (fun x μ1 => tyM b.T x μ1 ∧ b.r x [] μ1 Q) E
def eCallV (dfs : List (Addr × Nat)) (Γ : Nat → MSp) (i : Nat) (t : MA) : ME := fun ρ μ Q E => ∃ f j, ρ[i]? = some (some (.ref f)) ∧ (f, j) ∈ dfs ∧ t ρ μ (fun xs μ1 => callM (Γ j) xs μ1 Q E) E
def anyTy (t : String) : List String → Option Bool
  | [] => some false
  | T :: r => match kitB t T with
    | some true => some true
    | some false => anyTy t r
    | none => none
def oIsit (Ts : List String) : O1 := fun x μ Q => ∃ t b, tyOf μ x = some t ∧ anyTy t Ts = some b ∧ Q (.bl b) μ
def sPar (i j : Nat) (t : MA) : MS := fun ρ μ D E => t ρ μ (fun xs μ1 => ∃ v w, xs = [v, w] ∧ D.nx ((ρ.set i (some v)).set j (some w)) μ1) (fun x μ1 => E x ρ μ1)
def sPar3 (i j l : Nat) (t : MA) : MS := fun ρ μ D E => t ρ μ (fun xs μ1 => ∃ u v w, xs = [u, v, w] ∧ D.nx (((ρ.set i (some u)).set j (some v)).set l (some w)) μ1) (fun x μ1 => E x ρ μ1)
/-- within, the dict of slot i is locked -/
def sLock (i : Nat) (m : MS) : MS := fun ρ μ D _ => ∃ a kvs, ρ[i]? = some (some (.ref a)) ∧ μ a = some (.dt kvs) ∧ ∀ o gs, m ρ (updM μ a (.rdt o gs kvs))
  ⟨fun ρ' μ' => μ' a = some (.rdt o gs kvs) ∧ D.nx ρ' (updM μ' a (.dt kvs)), fun x μ' => μ' a = some (.rdt o gs kvs) ∧ D.rt x (updM μ' a (.dt kvs)), fun ρ' μ' => μ' a = some (.rdt o gs kvs) ∧ D.bk ρ' (updM μ' a (.dt kvs)), fun ρ' μ' => μ' a = some (.rdt o gs kvs) ∧ D.ct ρ' (updM μ' a (.dt kvs))⟩ (fun _ _ _ => False)
def iFn (r : List W → Mem → (MIt → Mem → Prop) → Prop) (t : MA) : MI := fun ρ μ R E => t ρ μ (fun ws μ1 => r ws μ1 R) E
def bad2 : O2 := fun _ _ _ _ => False
def badC : OC := fun _ _ _ => False
def badM : MSp := fun _ _ _ _ => False
def eFalse : ME := fun _ _ _ _ => False
def eDk0 : ME := fun _ μ Q _ => ∀ p, μ p = none → Q (.ref p) (updM μ p (.dk []))
def eDt0 : ME := fun _ μ Q _ => ∀ p, μ p = none → Q (.ref p) (updM μ p (.dt []))
def eDkc (x : Str) (j : Int) : ME := fun _ μ Q _ => ∀ p, μ p = none → Q (.ref p) (updM μ p (.dk [(.inr x, .int j)]))
section
variable (L : Lib) (Γ : Nat → MSp)
def clsA (c : Nat) : Addr := ((L.cls[c]?).map fun p => p.2.1).getD 0
def clsI (c : Nat) : Nat := ((L.cls[c]?).map fun p => p.2.2).getD 0
mutual
def dE : XE → ME
  | .var i => eVar i
  | .int i => eC (.int i)
  | .bl b => eC (.bl b)
  | .non => eC .non
  | .str x => eC (.str x)
  | .glob j => match L.cst[j]? with
    | some p => eC p.2
    | none => eFalse
  | .tup a => eTup (dA a)
  | .lst a => eLst (dA a)
  | .bop j a b => eOp ((L.bops[j]?).elim bad2 (·.2)) (dE a) (dE b)
  | .neg a => eUn oNeg (dE a)
  | .cop j a b => eOp ((L.cops[j]?).elim bad2 (·.2)) (dE a) (dE b)
  | .chn j j' a b c => eChain ((L.cops[j]?).elim bad2 (·.2)) ((L.cops[j']?).elim bad2 (·.2)) (dE a) (dE b) (dE c)
  | .ands l => dAnds l
  | .ors l => dOrs l
  | .not a => eNot (dE a)
  | .ite c a b => eIte (dT c) (dE a) (dE b)
  | .ix j a b => eOp ((L.ixs[j]?).getD bad2) (dE a) (dE b)
  | .sl a l h => eSl (dE a) (dO l) (dO h)
  | .call j a => eCall (Γ j) (dA a)
  | .bc j a => eCB ((L.bcs[j]?).elim badC (·.2)) (dA a)
  | .isi T e => eUn (oIsi T) (dE e)
  | .bm j o a => match L.bms[j]? with
    | some b => eBM b (dE o) (dA a)
    | none => eFalse
  | .bm0 j o => match L.bms[j]? with
    | some b => eBM0 b (dE o)
    | none => eFalse
  | .fld c f o => eFld f (clsA L c) (dE o)
  | .meth c j m o a => eMeth (clsA L c) m (Γ j) (dE o) (dA a)
  | .make c a => eMake (clsA L c) (Γ (clsI L c)) (dA a)
  | .lc it g t e own => eLcI (dI it) (dG g) (dIfs t) (dE e) (own.map (·.2)) fList
  | .lcb j it g t e own => match L.lfs[j]? with
    | some p => eLcI (dI it) (dG g) (dIfs t) (dE e) (own.map (·.2)) p.2
    | none => eFalse
  | .spc j a => match L.spcs[j]? with
    | some p => eCB p.r (dA a)
    | none => eFalse
  | .dk0 => eDk0
  | .dt0 => eDt0
  | .dkc x j => eDkc x j
  | .callv i a => eCallV L.dfs Γ i (dA a)
  | .isit Ts e => eUn (oIsit Ts) (dE e)
def dAnds : XA → ME
  | .nil => eFalse
  | .cons e .nil => dE e
  | .cons e r => eAnd (dE e) (dAnds r)
def dOrs : XA → ME
  | .nil => eFalse
  | .cons e .nil => dE e
  | .cons e r => eOr (dE e) (dOrs r)
def dA : XA → MA
  | .nil => aNil
  | .cons e r => aCons (dE e) (dA r)
def dT : XT → MT
  | .val e => tVal (dE e)
  | .cop j a b => tVal (eOp ((L.cops[j]?).elim bad2 (·.2)) (dE a) (dE b))
  | .ands l => dTAnds l
  | .ors l => dTOrs l
  | .not t => tNotM (dT t)
def dTAnds : XTs → MT
  | .nil => fun _ _ _ _ => False
  | .cons t .nil => dT t
  | .cons t r => tAndM (dT t) (dTAnds r)
def dTOrs : XTs → MT
  | .nil => fun _ _ _ _ => False
  | .cons t .nil => dT t
  | .cons t r => tOrM (dT t) (dTOrs r)
def dIfs : XTs → MT
  | .nil => tTrue
  | .cons t _ => dT t
def dO : XO → MO'
  | .none => pNone
  | .some e => pSome (dE e)
def dG : XG → MG
  | .nm i => gNm i
  | .tup l => gTp (lenGs l) (dGs l)
  | .sub j o i => gSb (dE o) (dE i) ((L.sets[j]?).getD fun _ _ _ _ _ => False)
def dGs : XGs → MGs
  | .nil => gNl
  | .cons g r => gCn (dG g) (dGs r)
def lenGs : XGs → Nat
  | .nil => 0
  | .cons _ r => lenGs r + 1
def dI : XI → MI
  | .seq e => iSq (dE e)
  | .fn j a => match L.its[j]? with
    | some p => iFn p.r (dA a)
    | none => fun _ _ _ _ => False
end
mutual
def dS : XS → MS
  | .expr e => sDrop (dE L Γ e)
  | .ret e => sRet (dE L Γ e)
  | .retN => sRetN
  | .iff t a b => sIf (dT L Γ t) (dSs a) (dSs b)
  | .asg e g => sAsg (dE L Γ e) (dG L Γ g)
  | .aug i j e => sAug i ((L.augs[j]?).elim bad2 (·.2)) (dE L Γ e)
  | .for_ it g _ b => sFor (dI L Γ it) (dG L Γ g) (dSs b)
  | .whl t b => sWhile (dT L Γ t) (dSs b)
  | .pass => sNext
  | .brk => sBreak
  | .cnt => sCont
  | .raise0 x => sRaise0 x
  | .fldS c f o v => sFldM f (clsA L c) (dE L Γ o) (dE L Γ v)
  | .fldA c f j o v => sFldAugM f (clsA L c) ((L.augs[j]?).elim bad2 (·.2)) (dE L Γ o) (dE L Γ v)
  | .setLc i it g t e own => sAsg (eLcI (dI L Γ it) (dG L Γ g) (dIfs L Γ t) (dE L Γ e) (own.map (·.2)) fList) (gNm i)
  | .par2 i j a => sPar i j (dA L Γ a)
  | .par3 i j l a => sPar3 i j l (dA L Γ a)
  | .lock i s => sLock i (dS s)
  | .try_ ns b hs => sTry ns (dSs b) (hs.map fun p => (p.1, sRet (eC p.2)))
def dSs : XSs → MS
  | .nil => sNext
  | .cons s .nil => dS s
  | .cons s r => sSeq (dS s) (dSs r)
end
end
end MP
set_option Elab.async false
set_option autoImplicit false
set_option linter.all false
set_option maxRecDepth 100000
namespace MP
open PySem PySem.Spec PyProof.Rows L2

/-! ### the check: does a tree stand for a piece of text -/
structure CK where
  N : List Str
  sc : Scope
  fn : Str → Bool
def visB (sc : Scope) (x : Str) : Bool := match sc.names.lookup x with
  | some .local => true
  | some .cell => true
  | some .free => true
  | _ => false
def glB (sc : Scope) (x : Str) : Bool := match sc.names.lookup x with
  | some .globalImplicit => true
  | _ => false
def tgB (c : CK) (x : Str) : Bool := match c.sc.names.lookup x with
  | some .local => true
  | some .cell => c.fn x
  | _ => false
def okN (x : Str) : Bool := !(x == ("__debug__" : Str)) && !(x == ("__classdict__" : Str)) && !(x == ("__name__" : Str))
def noStar : List Expr → Bool
  | [] => true
  | e :: r => (match e with
    | .Starred .. => false
    | _ => true) && noStar r
def notComp : Expr → Bool
  | .ListComp .. => false
  | .SetComp .. => false
  | .DictComp .. => false
  | _ => true
def notSet : Expr → Bool
  | .Set .. => false
  | _ => true
def notSlice : Expr → Bool
  | .Slice .. => false
  | _ => true
def notCall0 : Expr → Bool
  | .Call (.Name _ _) [] [] _ => false
  | _ => true
def valHead : Expr → Bool
  | .UnaryOp .Not _ _ => false
  | .BoolOp .. => false
  | .IfExp .. => false
  | .Compare .. => false
  | _ => true
def notNm : Expr → Bool
  | .Name .. => false
  | _ => true
def isTupE : Expr → Bool
  | .Tuple .. => true
  | _ => false
def isLstE : Expr → Bool
  | .List .. => true
  | _ => false
/-- a tuple to names: not by the short way, since one of them is no plain local name -/
def swB (sc : Scope) : Expr → Expr → Bool
  | .Tuple ts _ _, e => !isTupE e || ts.any fun t => match t with
    | .Name x _ => !(sc.names.lookup x == some .local)
    | _ => true
  | .List _ _, e => !isTupE e
  | _, _ => true
def CK.blk (c : CK) (scope : Scope) : CK := { N := c.N, sc := relS scope c.sc, fn := fun x => scope.names.lookup x == some .cell }

def cTys (sc : Scope) (tyns : List Str) : List String → List Expr → Bool
  | [], [] => true
  | T :: Ts, .Name z _ :: es => decide (z = Str.ofString T) && decide (bootBuiltins z = some (.type T)) && decide (z ∈ tyns) && glB sc z && okN z && cTys sc tyns Ts es
  | _, _ => false
section
variable (L : Lib)
mutual
def cE (c : CK) : XE → Expr → Bool
  | .var i, e => (match e with
    | .Name x _ => decide (c.N[i]? = some x) && visB c.sc x && okN x
    | _ => false)
  | .int i, e => (match e with
    | .Constant (.int j) _ _ => decide (i = j)
    | _ => false)
  | .bl i, e => (match e with
    | .Constant (.bool j) _ _ => decide (i = j)
    | _ => false)
  | .non, e => (match e with
    | .Constant .none _ _ => true
    | _ => false)
  | .str i, e => (match e with
    | .Constant (.str j) _ _ => decide (i = j)
    | _ => false)
  | .glob j, e => (match e with
    | .Name x _ => (match L.cst[j]? with
      | some p => decide (p.1 = x)
      | none => false) && glB c.sc x && okN x
    | _ => false)
  | .tup a, e => (match e with
    | .Tuple es _ _ => cA c a es
    | _ => false)
  | .lst a, e => (match e with
    | .List es _ => cA c a es
    | _ => false)
  | .bop j a b, e => (match e with
    | .BinOp x op y _ => decide ((L.bops[j]?).map (·.1) = some op) && cE c a x && cE c b y
    | _ => false)
  | .neg a, e => (match e with
    | .UnaryOp .USub x _ => cE c a x
    | _ => false)
  | .cop j a b, e => (match e with
    | .Compare x [op] [y] _ => decide ((L.cops[j]?).map (·.1) = some op) && cE c a x && cE c b y && notSet y
    | _ => false)
  | .chn j j' a b d, e => (match e with
    | .Compare x [op, op'] [y, z] _ => decide ((L.cops[j]?).map (·.1) = some op) && decide ((L.cops[j']?).map (·.1) = some op') && cE c a x && cE c b y && cE c d z && notSet y && notSet z
    | _ => false)
  | .ands l, e => (match e with
    | .BoolOp .And es _ => cAnds c l es
    | _ => false)
  | .ors l, e => (match e with
    | .BoolOp .Or es _ => cOrs c l es
    | _ => false)
  | .not a, e => (match e with
    | .UnaryOp .Not x _ => cE c a x
    | _ => false)
  | .ite t a b, e => (match e with
    | .IfExp x y z _ => cT c t x && cE c a y && cE c b z
    | _ => false)
  | .ix j a b, e => (match e with
    | .Subscript x y _ => (L.ixs[j]?).isSome && cE c a x && cE c b y && notSlice y
    | _ => false)
  | .sl a l h, e => (match e with
    | .Subscript x (.Slice lo hi none _) _ => cE c a x && cO c l lo && cO c h hi
    | _ => false)
  | .call j a, e => (match e with
    | .Call (.Name x _) (y :: ys) [] _ => decide (L.fns[j]? = some (some x)) && glB c.sc x && okN x && cA c a (y :: ys) && noStar (y :: ys)
    | _ => false)
  | .bc j a, e => (match e with
    | .Call (.Name x _) (y :: ys) [] _ => decide ((L.bcs[j]?).map (·.1) = some x) && glB c.sc x && okN x && cA c a (y :: ys) && noStar (y :: ys)
    | _ => false)
  | .isi T a, e => (match e with
    | .Call (.Name x _) [y, .Name z _] [] _ => decide (x = "isinstance") && glB c.sc x && decide (z = Str.ofString T) && decide (bootBuiltins z = some (.type T)) && decide (z ∈ L.tyns) && glB c.sc z && okN z && cE c a y && noStar [y]
    | _ => false)
  | .bm j o a, e => (match e with
    | .Call (.Attribute x m ap) (y :: ys) [] p => decide ((L.bms[j]?).map (·.name) = some m) && cE c o x && cA c a (y :: ys) && noStar (y :: ys) && notCall0 x && (ap.endLine == p.line) && decide ((y :: ys).length < 30)
    | _ => false)
  | .bm0 j o, e => (match e with
    | .Call (.Attribute x m ap) [] [] p => decide ((L.bms[j]?).map (·.name) = some m) && cE c o x && notCall0 x && (ap.endLine == p.line)
    | _ => false)
  | .fld k f o, e => (match e with
    | .Attribute x m _ => decide (m = f) && decide ((k, f) ∈ L.attrs) && (L.cls[k]?).isSome && cE c o x && notCall0 x
    | _ => false)
  | .meth k j m o a, e => (match e with
    | .Call (.Attribute x m' ap) (y :: ys) [] p => decide (m' = m) && decide ((k, m, j) ∈ L.meths) && (L.cls[k]?).isSome && cE c o x && cA c a (y :: ys) && noStar (y :: ys) && notCall0 x && (ap.endLine == p.line) && decide ((y :: ys).length < 30)
    | _ => false)
  | .make k a, e => (match e with
    | .Call (.Name x _) (y :: ys) [] _ => decide ((L.cls[k]?).map (·.1) = some x) && glB c.sc x && okN x && cA c a (y :: ys) && noStar (y :: ys)
    | _ => false)
  | .lc it g t a own, e => (match e with
    | .ListComp elt [⟨tg, iter, ifs, n⟩] scope _ => decide (n = 0) && cI c it tg iter && notSet iter && blkC c.N c.sc scope own && cG (c.blk scope) (own.map (·.2)) g tg && cIfs (c.blk scope) t ifs && cE (c.blk scope) a elt
    | _ => false)
  | .lcb j it g t a own, e => (match e with
    | .Call (.Name x _) [.ListComp elt [⟨tg, iter, ifs, n⟩] scope _] [] _ => decide ((L.lfs[j]?).map (·.1) = some x) && glB c.sc x && okN x && decide (n = 0) && cI c it tg iter && notSet iter && blkC c.N c.sc scope own && cG (c.blk scope) (own.map (·.2)) g tg && cIfs (c.blk scope) t ifs && cE (c.blk scope) a elt
    | _ => false)
  | .spc j a, e => (match L.spcs[j]? with
    | some p => (match p.look e with
      | some es => cA c a es && p.names.all (glB c.sc)
      | none => false)
    | none => false)
  | .dk0, e => (match e with
    | .Dict [] [] _ => true
    | _ => false)
  | .dt0, e => (match e with
    | .Dict [] [] _ => true
    | _ => false)
  | .dkc x j, e => (match e with
    | .Dict [some (.Constant (.str y) _ _)] [.Constant (.int i) _ _] _ => decide (x = y) && decide (i = j)
    | _ => false)
  | .callv i a, e => (match e with
    | .Call (.Name x _) (y :: ys) [] _ => decide (c.N[i]? = some x) && visB c.sc x && okN x && cA c a (y :: ys) && noStar (y :: ys)
    | _ => false)
  | .isit Ts a, e => (match e with
    | .Call (.Name x _) [y, .Tuple es _ _] [] _ => decide (x = "isinstance") && glB c.sc x && cTys c.sc L.tyns Ts es && cE c a y && noStar [y] && decide (Ts.length ≤ 20)
    | _ => false)
def cAnds (c : CK) : XA → List Expr → Bool
  | .nil, _ => false
  | .cons a r, es => (match es with
    | [] => false
    | x :: xs => cE c a x && (match r, xs with
      | .nil, [] => true
      | .nil, _ => false
      | .cons .., [] => false
      | .cons .., _ :: _ => cAnds c r xs))
def cOrs (c : CK) : XA → List Expr → Bool
  | .nil, _ => false
  | .cons a r, es => (match es with
    | [] => false
    | x :: xs => cE c a x && (match r, xs with
      | .nil, [] => true
      | .nil, _ => false
      | .cons .., [] => false
      | .cons .., _ :: _ => cOrs c r xs))
def cA (c : CK) : XA → List Expr → Bool
  | .nil, es => (match es with
    | [] => true
    | _ => false)
  | .cons a r, es => (match es with
    | [] => false
    | x :: xs => cE c a x && cA c r xs && noStar [x])
def cT (c : CK) : XT → Expr → Bool
  | .val a, e => valHead e && cE c a e
  | .cop j a b, e => (match e with
    | .Compare x [op] [y] _ => decide ((L.cops[j]?).map (·.1) = some op) && cE c a x && cE c b y && notSet y
    | _ => false)
  | .ands l, e => (match e with
    | .BoolOp .And es _ => cTAnds c l es
    | _ => false)
  | .ors l, e => (match e with
    | .BoolOp .Or es _ => cTOrs c l es
    | _ => false)
  | .not t, e => (match e with
    | .UnaryOp .Not x _ => cT c t x
    | _ => false)
def cTAnds (c : CK) : XTs → List Expr → Bool
  | .nil, _ => false
  | .cons a r, es => (match es with
    | [] => false
    | x :: xs => cT c a x && (match r, xs with
      | .nil, [] => true
      | .nil, _ => false
      | .cons .., [] => false
      | .cons .., _ :: _ => cTAnds c r xs))
def cTOrs (c : CK) : XTs → List Expr → Bool
  | .nil, _ => false
  | .cons a r, es => (match es with
    | [] => false
    | x :: xs => cT c a x && (match r, xs with
      | .nil, [] => true
      | .nil, _ => false
      | .cons .., [] => false
      | .cons .., _ :: _ => cTOrs c r xs))
def cIfs (c : CK) : XTs → List Expr → Bool
  | .nil, es => (match es with
    | [] => true
    | _ => false)
  | .cons t r, es => (match es with
    | [x] => cT c t x && (match r with
      | .nil => true
      | _ => false)
    | _ => false)
def cO (c : CK) : XO → Option Expr → Bool
  | .none, e => e.isNone
  | .some a, e => (match e with
    | some x => cE c a x
    | none => false)
def cG (c : CK) (vs : List Nat) : XG → Expr → Bool
  | .nm i, e => (match e with
    | .Name x _ => decide (c.N[i]? = some x) && tgB c x && decide (i ∈ vs)
    | _ => false)
  | .tup l, e => (match e with
    | .Tuple es _ _ => cGs c vs l es && noStar es
    | _ => false)
  | .sub j o i, e => (match e with
    | .Subscript x y _ => (L.sets[j]?).isSome && cE c o x && cE c i y && notSlice y
    | _ => false)
def cGs (c : CK) (vs : List Nat) : XGs → List Expr → Bool
  | .nil, es => (match es with
    | [] => true
    | _ => false)
  | .cons g r, es => (match es with
    | [] => false
    | x :: xs => cG c vs g x && cGs c vs r xs && noStar [x])
def cI (c : CK) : XI → Expr → Expr → Bool
  | .seq a, _, e => cE c a e
  | .fn j a, tg, e => (match e with
    | .Call (.Name x _) (y :: ys) [] _ => (match L.its[j]? with
      | some p => decide (p.name = x) && (!p.tup || isTupE tg) && decide ((y :: ys).length = p.ar)
      | none => false) && glB c.sc x && okN x && cA c a (y :: ys) && noStar (y :: ys)
    | _ => false)
end
def cH : List (Str × W) → List ExceptHandler → List Str → Scope → Bool
  | [], [], _, _ => true
  | p :: ps, h :: hs, ns, sc => (match h with
    | .ExceptHandler (some (.Name x _)) none [.Return (some (.Constant v _ _)) _] _ => decide (p.1 = x) && decide (x ∈ ns) && glB sc x && okN x && (match p.2, v with
      | .non, .none => true
      | .bl a, .bool b => decide (a = b)
      | .int a, .int b => decide (a = b)
      | .str a, .str b => decide (a = b)
      | _, _ => false)
    | _ => false) && cH ps hs ns sc
  | _, _, _, _ => false
mutual
def cS (c : CK) : XS → Stmt → Bool
  | .expr a, s => (match s with
    | .Expr e _ => cE L c a e && notComp e
    | _ => false)
  | .ret a, s => (match s with
    | .Return (some e) _ => cE L c a e
    | _ => false)
  | .retN, s => (match s with
    | .Return none _ => true
    | _ => false)
  | .iff t a b, s => (match s with
    | .If x y z _ => cT L c t x && cSs c a y && cSs c b z
    | _ => false)
  | .asg a g, s => (match s with
    | .Assign [tg] e _ => cE L c a e && cG L c (List.range c.N.length) g tg && (notComp e || notNm tg) && swB c.sc tg e
    | _ => false)
  | .aug i j a, s => (match s with
    | .AugAssign (.Name x _) op e _ => decide (c.N[i]? = some x) && tgB c x && decide ((L.augs[j]?).map (·.1) = some op) && cE L c a e
    | _ => false)
  | .for_ it g vs b, s => (match s with
    | .For tg iter body [] _ => cI L c it tg iter && notSet iter && cG L c vs g tg && cSs c b body
    | _ => false)
  | .whl t b, s => (match s with
    | .While x body [] _ => cT L c t x && cSs c b body
    | _ => false)
  | .pass, s => (match s with
    | .Pass _ => true
    | _ => false)
  | .brk, s => (match s with
    | .Break _ => true
    | _ => false)
  | .cnt, s => (match s with
    | .Continue _ => true
    | _ => false)
  | .raise0 x, s => (match s with
    | .Raise (some (.Call (.Name y _) [] [] _)) none _ => decide (x = y) && decide (x ∈ L.excs) && glB c.sc x && okN x
    | _ => false)
  | .fldS k f o v, s => (match s with
    | .Assign [.Attribute x m _] e _ => decide (m = f) && decide ((k, f) ∈ L.attrs) && (L.cls[k]?).isSome && cE L c o x && cE L c v e && notComp e
    | _ => false)
  | .fldA k f j o v, s => (match s with
    | .AugAssign (.Attribute x m _) op e _ => decide (m = f) && decide ((k, f) ∈ L.attrs) && (L.cls[k]?).isSome && cE L c o x && cE L c v e && decide ((L.augs[j]?).map (·.1) = some op)
    | _ => false)
  | .setLc i it g t a own, s => (match s with
    | .Assign [.Name y py] (.ListComp elt [⟨tg, iter, ifs, n⟩] scope lp) p => decide (n = 0) && decide (c.N[i]? = some y) && decide (c.sc.names.lookup y = some .local) && decide (c.sc.kind = .function) && (py.line == lp.line) && !(scope.names.any fun q => q.1 == y && (q.2 == .local || q.2 == .cell)) && cI L c it tg iter && notSet iter && blkC c.N c.sc scope own && cG L (c.blk scope) (own.map (·.2)) g tg && cIfs L (c.blk scope) t ifs && cE L (c.blk scope) a elt
    | _ => false)
  | .par2 i j a, s => (match s with
    | .Assign [.Tuple [.Name x px, .Name y py] _ _] (.Tuple [e1, e2] _ _) _ => decide (c.N[i]? = some x) && decide (c.N[j]? = some y) && decide (i ≠ j) && decide (x ≠ y) && decide (c.sc.names.lookup x = some .local) && decide (c.sc.names.lookup y = some .local) && decide (c.sc.kind = .function) && (py.line == px.line) && noStar [e1, e2] && !([e1, e2].all (foldedForSure 8)) && !([e1, e2].all (constantsAlone 8)) && cA L c a [e1, e2]
    | _ => false)
  | .par3 i j l a, s => (match s with
    | .Assign [.Tuple [.Name x px, .Name y py, .Name z pz] _ _] (.Tuple [e1, e2, e3] _ _) _ => decide (c.N[i]? = some x) && decide (c.N[j]? = some y) && decide (c.N[l]? = some z) && decide (i ≠ j) && decide (i ≠ l) && decide (j ≠ l) && decide (x ≠ y) && decide (x ≠ z) && decide (y ≠ z) && decide (c.sc.names.lookup x = some .local) && decide (c.sc.names.lookup y = some .local) && decide (c.sc.names.lookup z = some .local) && decide (c.sc.kind = .function) && (py.line == px.line) && (pz.line == px.line) && noStar [e1, e2, e3] && !([e1, e2, e3].all (foldedForSure 8)) && !([e1, e2, e3].all (constantsAlone 8)) && cA L c a [e1, e2, e3]
    | _ => false)
  | .lock _ b, s => cS c b s
  | .try_ ns b hs, s => (match s with
    | .Try body (h :: hds) [] [] _ => ns.all (fun n => decide (n ∈ L.excs)) && cSs c b body && cH hs (h :: hds) ns c.sc
    | _ => false)
def cSs (c : CK) : XSs → List Stmt → Bool
  | .nil, l => (match l with
    | [] => true
    | _ => false)
  | .cons s r, l => (match l with
    | [] => false
    | x :: xs => cS c s x && cSs c r xs)
end
end
end MP
set_option Elab.async false
set_option autoImplicit false
set_option linter.all false
set_option maxRecDepth 100000
namespace MP
open PySem PySem.Spec PyProof.Rows L2

structure Bs (P : Program) (w : World) (K : PySem.W.Frag) (mg : Str → Option Value) (base : Heap) (k : Nat) (X : Cx) : Prop where
  prog : X.prog = P
  wd : X.w = w
  K : X.K = K
  mg : X.mg = mg
  base : X.base = base
  calm : X.calm = true
  room : Room (k + 1) X.A
structure At (P : Program) (w : World) (K : PySem.W.Frag) (mg : Str → Option Value) (base : Heap) (k : Nat) (c : CK) (Wx : WX) (X : Cx) : Prop where
  bs : Bs P w K mg base k X
  tk : Takes X Wx
  hN : X.N = c.N
  nd : c.N.Nodup
  sc : X.env.scope = c.sc
  fn : ∀ x, X.fn x = c.fn x
structure AtS (P : Program) (w : World) (K : PySem.W.Frag) (mg : Str → Option Value) (base : Heap) (k : Nat) (c : CK) (Wx : WX) (X : Cx) : Prop where
  at_ : At P w K mg base k c Wx X
  po : PassesOwn (model X.prog X.w) X.A X.env X.xe
  stk : X.stack = X.env :: X.outer
  frm : X.env.frame = some X.env.locals

section
variable (P : Program) (w : World) (K : PySem.W.Frag) (mg : Str → Option Value) (base : Heap) (k : Nat) (Γ : Nat → MSp)
def BcOk (p : Str × OC) : Prop := mg p.1 = none ∧ ∀ X, Bs P w K mg base k X → (∃ id, CallR X (.builtin id) (liftC X.K p.2) ∧ bootBuiltins p.1 = some (.builtin id)) ∨ (∃ id, CallR X (.type id) (liftC X.K p.2) ∧ bootBuiltins p.1 = some (.type id))
structure BmOk (b : BM) : Prop where
  pa : PySem.PlainAttrs b.T
  sl : PySem.Slot b.T b.name b.id
  ty : typeOf (.builtin b.id) = pure (.type "method_descriptor")
  mt : ∀ X, Bs P w K mg base k X → MtR X b.id (liftM X.K b.r)
def ItOk (p : ITb) : Prop := mg p.name = none ∧ ∀ X, Bs P w K mg base k X → ∀ (Wx : WX) (tg e : Expr) (es : List Expr) (t : MA) (pp pos : Pos), (p.tup = true → isTupE tg = true) → (e :: es).length = p.ar → Gl X p.name → noStar (e :: es) = true → PAm X Wx (e :: es) t → PIm X Wx tg (.Call (.Name p.name pp) (e :: es) [] pos) (iFn p.r t)
def SpcOk (p : Spc) : Prop := ∀ X, Bs P w K mg base k X → ∀ (Wx : WX) (e : Expr) (es : List Expr) (t : MA), (∀ x ∈ p.names, Gl X x) → p.look e = some es → PAm X Wx es t → PEm X Wx e (eCB p.r t)
def IxOk (r : O2) : Prop := ∀ X, Bs P w K mg base k X → ∀ (Wx : WX) (a b : Expr) (ma mb : ME) (pos : Pos), PEm X Wx a ma → PEm X Wx b mb → notSlice b = true → PEm X Wx (.Subscript a b pos) (eOp r ma mb)
structure Lib.Ok (L : Lib) : Prop where
  fns : ∀ (j : Nat) (x : Str), L.fns[j]? = some (some x) → ∃ f fd ps, mg x = some (.ref f) ∧ PySem.W.keepIn K (.ref f) = true ∧ Binds K fd ps [] ∧ FnOk P w K mg base (CX P w) k f fd ps (spM K mg (Γ j))
  dfs : ∀ (f : Addr) (j : Nat), (f, j) ∈ L.dfs → ∃ fd ps, PySem.W.keepIn K (.ref f) = true ∧ Binds K fd ps [] ∧ FnOk P w K mg base (CX P w) k f fd ps (spM K mg (Γ j))
  cst : ∀ (j : Nat) (p : Str × W), L.cst[j]? = some p → ∃ u v, mg p.1 = some u ∧ RelV v u ∧ ∀ H, RV K H v p.2
  bops : ∀ (j : Nat) (p : Operator × O2), L.bops[j]? = some p → ∀ X, Bs P w K mg base k X → OpR X (binaryOp p.1) (lift2 X.K p.2)
  augs : ∀ (j : Nat) (p : Operator × O2), L.augs[j]? = some p → ∀ X, Bs P w K mg base k X → PIp X p.1 (lift2 X.K p.2)
  cops : ∀ (j : Nat) (p : CmpOp × O2), L.cops[j]? = some p → ∀ X, Bs P w K mg base k X → OpR X (compareOp p.1) (lift2 X.K p.2)
  ixs : ∀ (j : Nat) (r : O2), L.ixs[j]? = some r → IxOk P w K mg base k r
  sets : ∀ (j : Nat) (r : W → W → W → Mem → (Mem → Prop) → Prop), L.sets[j]? = some r → ∀ X, Bs P w K mg base k X → PSet X (liftSet X.K r)
  bcs : ∀ (j : Nat) (p : Str × OC), L.bcs[j]? = some p → BcOk P w K mg base k p
  isi : mg "isinstance" = none
  tys : ∀ x ∈ L.tyns, mg x = none
  lfs : ∀ (j : Nat) (p : Str × (List W → MQ → Mem → Prop)), L.lfs[j]? = some p → LF p.2 ∧ mg p.1 = none ∧ ∀ X, Bs P w K mg base k X → (∃ id, CallR X (.builtin id) (liftC X.K (oL p.2)) ∧ bootBuiltins p.1 = some (.builtin id)) ∨ (∃ id, CallR X (.type id) (liftC X.K (oL p.2)) ∧ bootBuiltins p.1 = some (.type id))
  bms : ∀ (j : Nat) (b : BM), L.bms[j]? = some b → BmOk P w K mg base k b
  its : ∀ (j : Nat) (p : ITb), L.its[j]? = some p → ItOk P w K mg base k p
  cls : ∀ (c : Nat) (p : Str × Addr × Nat), L.cls[c]? = some p → mg p.1 = some (.ref p.2.1) ∧ Cls K p.2.1
  mkc : ∀ (c : Nat) (p : Str × Addr × Nat), L.cls[c]? = some p → ∃ g fd ps, Mk K p.2.1 g ∧ Binds K fd ps [] ∧ FnOk P w K mg base (CX P w) k g fd ps (spM K mg (Γ p.2.2))
  meths : ∀ (c : Nat) (m : Str) (j : Nat) (p : Str × Addr × Nat), (c, m, j) ∈ L.meths → L.cls[c]? = some p → ∃ g fd ps, Meth K p.2.1 m g ∧ Binds K fd ps [] ∧ FnOk P w K mg base (CX P w) k g fd ps (spM K mg (Γ j))
  attrs : ∀ (c : Nat) (f : Str) (p : Str × Addr × Nat), (c, f) ∈ L.attrs → L.cls[c]? = some p → NoAttr K p.2.1 f
  excs : ∀ X, Bs P w K mg base k X → ∀ x ∈ L.excs, ExcOk X x
  xtab : ∀ X, Bs P w K mg base k X → XTab X L.excs
  spcs : ∀ (j : Nat) (p : Spc), L.spcs[j]? = some p → SpcOk P w K mg base k p
end

/-! ### the small facts of the text -/
section
variable {env : Env} {e : Expr} {es : List Expr} {X : Cx} {x : Str}
theorem ns_head (h : noStar [e] = true) : starEach (e :: es) env = (false, eval e env) :: starEach es env := by
  cases e <;> first
    | rfl
    | (simp [noStar] at h)
theorem ns_cons (h : noStar (e :: es) = true) : noStar [e] = true ∧ noStar es = true := by
  unfold noStar at h
  rw [Bool.and_eq_true] at h
  refine ⟨?_, h.2⟩
  unfold noStar
  rw [Bool.and_eq_true]
  exact ⟨h.1, rfl⟩
theorem ns_all {pos : Pos} : ∀ {es : List Expr}, noStar es = true → ((backTo pos (starEach es env)).all (!·.1)) = true
  | [], _ => rfl
  | e :: es, h => by
    obtain ⟨h1, h2⟩ := ns_cons h
    rw [ns_head h1]
    have ih := ns_all (pos := pos) h2
    unfold backTo at ih ⊢
    rw [List.map_cons, List.all_cons, ih]
    rfl
theorem ns_any {pos : Pos} : ∀ {es : List Expr}, noStar es = true → ((backTo pos (starEach es env)).any (·.1)) = false
  | [], _ => rfl
  | e :: es, h => by
    obtain ⟨h1, h2⟩ := ns_cons h
    rw [ns_head h1]
    have ih := ns_any (pos := pos) h2
    unfold backTo at ih ⊢
    rw [List.map_cons, List.any_cons, ih]
    rfl
theorem ns_assign (h : noStar [e] = true) : assignEach (e :: es) env = (false, assign e env) :: assignEach es env := by
  cases e <;> first
    | rfl
    | (simp [noStar] at h)
theorem sw_not {o : Option Expr} {l : Nat} (h : notComp e = true) : swapsWith e o l env = pure false := by
  cases e <;> first
    | rfl
    | (simp [notComp] at h)
theorem sw_tgt {tg : Expr} {l : Nat} (h : (notComp e || notNm tg) = true) : swapsWithSole [tg] e l env = pure false := by
  rw [Bool.or_eq_true] at h
  rcases h with h | h
  · exact sw_not h
  · show swapsWith e (some tg) l env = pure false
    cases tg <;> first
      | (simp [notNm] at h; done)
      | (cases e <;> rfl)
/-- the names of plain targets on one row -/
def tgNames (env : Env) (l : Nat) : Expr → Option Str
  | .Name id pos => if env.kindOf id == some .local && pos.line == l then some id else none
  | _ => none
theorem fm_le {α β : Type} (f : α → Option β) : ∀ l : List α, (l.filterMap f).length ≤ l.length
  | [] => Nat.le_refl _
  | a :: l => by
    have ih := fm_le f l
    cases e : f a with
    | none => rw [List.filterMap_cons_none e, List.length_cons]; omega
    | some b => rw [List.filterMap_cons_some e, List.length_cons, List.length_cons]; omega
theorem fm_lt {α β : Type} (f : α → Option β) {a : α} : ∀ {l : List α}, a ∈ l → f a = none → (l.filterMap f).length ≠ l.length
  | b :: l, h, e => by
    rcases List.mem_cons.mp h with h | h
    · subst h
      have := fm_le f l
      rw [List.filterMap_cons_none e, List.length_cons]
      omega
    · have ih := fm_lt f h e
      cases q : f b with
      | none =>
        have := fm_le f l
        rw [List.filterMap_cons_none q, List.length_cons]
        omega
      | some c => rw [List.filterMap_cons_some q, List.length_cons, List.length_cons]; omega
theorem sw_cell {ts vs : List Expr} {k k2 : Nat} {p p2 : Pos} {t : Expr} (ht : t ∈ ts) (hn : ∀ l, tgNames env l t = none) : swappedStores [.Tuple ts k p] (.Tuple vs k2 p2) env = pure none := by
  have e0 := fm_lt (tgNames env ((ts.head?.map (·.pos.line)).getD 0)) ht (hn _)
  show (if (!(ts.length == 2 || ts.length == 3) || vs.length != ts.length || env.blockKind != .function) = true then pure none else
    if (vs.any fun | .Starred .. => true | _ => false) = true then pure none else
    if ((ts.filterMap (tgNames env ((ts.head?.map (·.pos.line)).getD 0))).length != ts.length || (ts.filterMap (tgNames env ((ts.head?.map (·.pos.line)).getD 0))).eraseDups.length != (ts.filterMap (tgNames env ((ts.head?.map (·.pos.line)).getD 0))).length) = true then pure none else
    if vs.all (foldedForSure 8) = true then pure none else
    if vs.all (constantsAlone 8) = true then unsupported "assign.tuple-of-constant-expressions:order-of-the-stores" else
    pure (some (ts.filterMap (tgNames env ((ts.head?.map (·.pos.line)).getD 0)))) : Sem (Option (List Str))) = _
  by_cases h1 : (!(ts.length == 2 || ts.length == 3) || vs.length != ts.length || env.blockKind != .function) = true
  · rw [if_pos h1]
  · rw [if_neg h1]
    by_cases h2 : (vs.any fun | .Starred .. => true | _ => false) = true
    · rw [if_pos h2]
    · rw [if_neg h2, if_pos (by rw [Bool.or_eq_true, bne_iff_ne]; exact .inl e0)]
theorem sw_stores {tg : Expr} {sc : Scope} (hs : env.scope = sc) (h : swB sc tg e = true) : swappedStores [tg] e env = pure none := by
  cases tg with
  | Tuple ts k p =>
    cases e with
    | Tuple vs k2 p2 =>
      unfold swB at h
      simp only [isTupE, Bool.not_true, Bool.false_or, List.any_eq_true] at h
      obtain ⟨t, ht, hn⟩ := h
      refine sw_cell ht fun l => ?_
      cases t with
      | Name x px =>
        simp only [Bool.not_eq_true', beq_eq_false_iff_ne] at hn
        show (if (env.kindOf x == some .local && px.line == l) = true then some x else none) = none
        have e2 : (env.kindOf x == some .local) = false := by
          rw [beq_eq_false_iff_ne]
          show env.scope.names.lookup x ≠ some .local
          rw [hs]
          exact hn
        rw [e2]
        rfl
      | _ => rfl
    | _ => rfl
  | List ts p =>
    cases e with
    | Tuple vs k2 p2 => simp [swB, isTupE] at h
    | _ => rfl
  | _ => cases e <;> rfl
theorem asg_one {tg : Expr} (h : noStar [tg] = true) : (assignEach [tg] env).map (·.2) = [assign tg env] := by rw [ns_assign h]; rfl
theorem fold_not (h : notSet e = true) : ∀ x, foldedSetIterable e env x = pure x := by
  intro x
  cases e <;> first
    | rfl
    | (simp [notSet] at h)
theorem beh_not {op : CmpOp} (h : notSet e = true) : behindInMarks op e = false := by
  cases e <;> first
    | rfl
    | (simp [notSet] at h)
theorem last_not {op op' : CmpOp} {e' : Expr} (h : notSet e' = true) : lastMarks [op, op'] [e, e'] = false := beh_not h
theorem ix_not (h : notSlice e = true) : PlainIx e := fun o i => by
  cases e <;> first
    | rfl
    | (simp [notSlice] at h)
theorem base_not {f : Str} (h : notCall0 e = true) : attributeBase e f env (eval e env) = eval e env := by
  cases e <;> first
    | rfl
    | skip
  rename_i fu ar kw po
  cases fu <;> first
    | rfl
    | skip
  cases ar <;> first
    | rfl
    | skip
  cases kw <;> first
    | rfl
    | (simp [notCall0] at h)
theorem val_is (h : valHead e = true) : ∀ whole, isTrue e env whole = (do let v ← whole; standAt e.pos; holding [v] (truthy v)) := fun whole => by
  cases e <;> first
    | rfl
    | (simp [valHead] at h; done)
    | skip
  rename_i op a b
  cases op <;> first
    | rfl
    | (simp [valHead] at h)
theorem ok_n (h : okN x = true) : (x == ("__debug__" : Str)) = false ∧ (x == ("__classdict__" : Str)) = false ∧ x ≠ "__name__" := by
  unfold okN at h
  simp only [Bool.and_eq_true, Bool.not_eq_true'] at h
  exact ⟨h.1.1, h.1.2, fun e => by rw [e] at h; exact absurd h.2 (by decide +kernel)⟩
theorem vis_of {sc : Scope} (hs : X.env.scope = sc) (h : visB sc x = true) : Vis X.env.scope x := by
  unfold visB at h
  unfold Vis
  rw [hs]
  split at h
  · exact .inl (by assumption)
  · exact .inr (.inl (by assumption))
  · exact .inr (.inr (by assumption))
  · cases h
theorem gl_of {sc : Scope} (hs : X.env.scope = sc) (h : glB sc x = true) : Gl X x := by
  unfold glB at h
  show X.env.scope.names.lookup x = some .globalImplicit
  rw [hs]
  split at h
  · assumption
  · cases h
theorem tg_of {c : CK} (hs : X.env.scope = c.sc) (hf : ∀ x, X.fn x = c.fn x) (h : tgB c x = true) : L2.Loc X.env.scope x ∧ (X.fn x = true ∨ X.env.scope.names.lookup x = some .local) := by
  unfold tgB at h
  unfold L2.Loc
  rw [hs]
  split at h
  · exact ⟨.inl (by assumption), .inr (by assumption)⟩
  · exact ⟨.inr (by assumption), .inl (by rw [hf]; exact h)⟩
  · cases h
/-- the tree of a method call -/
theorem meth_tree {o : Expr} {m : Str} {apos pos : Pos} {args : List Expr} (hb : attributeBase o m env (eval o env) = eval o env) (hs : noStar args = true) (hn : args.length < 30) (hl : (apos.endLine == pos.line) = true) :
    eval (.Call (.Attribute o m apos) args [] pos) env = (do
      let ov ← eval o env
      standAt apos.atName
      let (f, first) ← holding [ov] (getMethod ov m (do return (← importBound o env).getD true))
      callWith pos f first (backTo pos (starEach args env)) (backToKw pos (keywordEach [] env))) := by
  have hf : methodCallForm (args.length + ([] : List Keyword).length) (backTo pos (starEach args env)) (backToKw pos (keywordEach [] env)) = true := by
    unfold methodCallForm
    rw [ns_all hs]
    simp [backToKw, keywordEach, hn]
  refine (mcall_of hb fun ov => ?_).trans rfl
  unfold methodCall
  rw [hf]
  unfold calleeOf methodCallPos
  simp only [hl, Bool.not_true, Bool.false_or, if_true, pure_bind]
end
end MP
set_option Elab.async false
set_option autoImplicit false
set_option linter.all false
set_option maxRecDepth 100000
namespace MP
open PySem PySem.Spec PyProof.Rows L2

theorem tgn {env : Env} {x : Str} {p : Pos} {l : Nat} (h1 : env.scope.names.lookup x = some .local) (hl : (p.line == l) = true) : tgNames env l (.Name x p) = some x := by
  have e2 : env.kindOf x = some .local := h1
  show (if (env.kindOf x == some .local && p.line == l) = true then some x else none) = some x
  rw [e2, hl]
  rfl
theorem blkF {env : Env} (hk : env.scope.kind = .function) : env.blockKind = .function := by
  unfold Env.blockKind
  first
    | exact hk
    | (simp [hk])
theorem nsAny : ∀ {es : List Expr}, noStar es = true → (es.any fun | .Starred .. => true | _ => false) = false
  | [], _ => rfl
  | e :: es, h => by
    obtain ⟨h1, h2⟩ := ns_cons h
    rw [List.any_cons, nsAny h2, Bool.or_false]
    cases e <;> first
      | rfl
      | (simp [noStar] at h1)
theorem swap2 {env : Env} {x y : Str} {a b : Expr} {px py pt pt2 : Pos} {kt k2 : Nat} (h1 : env.scope.names.lookup x = some .local) (h2 : env.scope.names.lookup y = some .local) (hk : env.scope.kind = .function) (hl : (py.line == px.line) = true) (hxy : x ≠ y) (hs : noStar [a, b] = true)
    (hf : [a, b].all (foldedForSure 8) = false) (hc : [a, b].all (constantsAlone 8) = false) : swappedStores [.Tuple [.Name x px, .Name y py] kt pt] (.Tuple [a, b] k2 pt2) env = pure (some [x, y]) := by
  have e5 : List.filterMap (tgNames env px.line) [Expr.Name x px, Expr.Name y py] = [x, y] := by
    rw [List.filterMap_cons_some (tgn h1 (by simp)), List.filterMap_cons_some (tgn h2 hl)] <;> rfl
  have e6 : [x, y].eraseDups.length = 2 := by
    have : (y == x) = false := by simpa using hxy.symm
    simp [List.eraseDups, List.eraseDupsBy, List.eraseDupsBy.loop, this]
  show (if (!([Expr.Name x px, Expr.Name y py].length == 2 || [Expr.Name x px, Expr.Name y py].length == 3) || [a, b].length != [Expr.Name x px, Expr.Name y py].length || env.blockKind != .function) = true then pure none else
    if ([a, b].any fun | .Starred .. => true | _ => false) = true then pure none else
    if ((List.filterMap (tgNames env px.line) [Expr.Name x px, Expr.Name y py]).length != [Expr.Name x px, Expr.Name y py].length || (List.filterMap (tgNames env px.line) [Expr.Name x px, Expr.Name y py]).eraseDups.length != (List.filterMap (tgNames env px.line) [Expr.Name x px, Expr.Name y py]).length) = true then pure none else
    if [a, b].all (foldedForSure 8) = true then pure none else
    if [a, b].all (constantsAlone 8) = true then unsupported "assign.tuple-of-constant-expressions:order-of-the-stores" else
    pure (some (List.filterMap (tgNames env px.line) [Expr.Name x px, Expr.Name y py])) : Sem (Option (List Str))) = _
  rw [if_neg (by rw [blkF hk]; simp), if_neg (by rw [nsAny hs]; simp), e5, if_neg (by rw [e6]; simp), if_neg (by rw [hf]; simp), if_neg (by rw [hc]; simp)]
theorem swap3 {env : Env} {x y z : Str} {a b c : Expr} {px py pz pt pt2 : Pos} {kt k2 : Nat} (h1 : env.scope.names.lookup x = some .local) (h2 : env.scope.names.lookup y = some .local) (h3 : env.scope.names.lookup z = some .local) (hk : env.scope.kind = .function) (hl : (py.line == px.line) = true) (hl2 : (pz.line == px.line) = true)
    (hxy : x ≠ y) (hxz : x ≠ z) (hyz : y ≠ z) (hs : noStar [a, b, c] = true)
    (hf : [a, b, c].all (foldedForSure 8) = false) (hc : [a, b, c].all (constantsAlone 8) = false) : swappedStores [.Tuple [.Name x px, .Name y py, .Name z pz] kt pt] (.Tuple [a, b, c] k2 pt2) env = pure (some [x, y, z]) := by
  have e5 : List.filterMap (tgNames env px.line) [Expr.Name x px, Expr.Name y py, Expr.Name z pz] = [x, y, z] := by
    rw [List.filterMap_cons_some (tgn h1 (by simp)), List.filterMap_cons_some (tgn h2 hl), List.filterMap_cons_some (tgn h3 hl2)] <;> rfl
  have e6 : [x, y, z].eraseDups.length = 3 := by
    have q1 : (y == x) = false := by simpa using hxy.symm
    have q2 : (z == x) = false := by simpa using hxz.symm
    have q3 : (z == y) = false := by simpa using hyz.symm
    simp [List.eraseDups, List.eraseDupsBy, List.eraseDupsBy.loop, q1, q2, q3]
  show (if (!([Expr.Name x px, Expr.Name y py, Expr.Name z pz].length == 2 || [Expr.Name x px, Expr.Name y py, Expr.Name z pz].length == 3) || [a, b, c].length != [Expr.Name x px, Expr.Name y py, Expr.Name z pz].length || env.blockKind != .function) = true then pure none else
    if ([a, b, c].any fun | .Starred .. => true | _ => false) = true then pure none else
    if ((List.filterMap (tgNames env px.line) [Expr.Name x px, Expr.Name y py, Expr.Name z pz]).length != [Expr.Name x px, Expr.Name y py, Expr.Name z pz].length || (List.filterMap (tgNames env px.line) [Expr.Name x px, Expr.Name y py, Expr.Name z pz]).eraseDups.length != (List.filterMap (tgNames env px.line) [Expr.Name x px, Expr.Name y py, Expr.Name z pz]).length) = true then pure none else
    if [a, b, c].all (foldedForSure 8) = true then pure none else
    if [a, b, c].all (constantsAlone 8) = true then unsupported "assign.tuple-of-constant-expressions:order-of-the-stores" else
    pure (some (List.filterMap (tgNames env px.line) [Expr.Name x px, Expr.Name y py, Expr.Name z pz])) : Sem (Option (List Str))) = _
  rw [if_neg (by rw [blkF hk]; simp), if_neg (by rw [nsAny hs]; simp), e5, if_neg (by rw [e6]; simp), if_neg (by rw [hf]; simp), if_neg (by rw [hc]; simp)]
section
variable {X : Cx} {Wx : WX} {i j l : Nat} {x y z : Str} {a b c : Expr} {t : MA} {px py pz pt pos : Pos} {kt k2 : Nat} {pt2 : Pos}
theorem RVs.three {K : PySem.W.Frag} {H : Hp} {vs : List V} {x y z : W} (r : RVs K H vs [x, y, z]) : ∃ u v w, vs = [u, v, w] ∧ RV K H u x ∧ RV K H v y ∧ RV K H w z := by
  cases r with
  | cons r0 t =>
    obtain ⟨v, w, e, r1, r2⟩ := t.two
    subst e
    exact ⟨_, _, _, rfl, r0, r1, r2⟩
theorem ms_par (hc : X.calm = true) (hN : X.N.Nodup) (hi : X.N[i]? = some x) (hj : X.N[j]? = some y) (hij : i ≠ j) (hx : X.env.scope.names.lookup x = some .local) (hy : X.env.scope.names.lookup y = some .local) (ha : PAm X Wx [a, b] t)
    (hw : swappedStores [.Tuple [.Name x px, .Name y py] kt pt] (.Tuple [a, b] k2 pt2) X.env = pure (some [x, y])) : PSm X Wx (.Assign [.Tuple [.Name x px, .Name y py] kt pt] (.Tuple [a, b] k2 pt2) pos) (sPar i j t) := PS.imp (ps_par hc hN hi hj hij hx hy ha hw) fun D σ H h => by
  obtain ⟨ρ, μ, Dm, Em, rs, rm, h, h1, h2, h3, h4, he⟩ := h
  refine ⟨ρ, μ, _, _, rs, rm, h, fun vs H1 xs μ1 g1 r1 m1 ⟨v, w, e, q1⟩ => ?_, he.ex rs⟩
  subst e
  obtain ⟨v0, w0, rfl, r2, r3⟩ := r1.two
  exact ⟨v0, w0, rfl, h1 _ _ _ _ g1 (((rs.mono g1.g).set i r2).set j r3) m1 q1⟩
theorem ms_par3 (hc : X.calm = true) (hN : X.N.Nodup) (hi : X.N[i]? = some x) (hj : X.N[j]? = some y) (hl : X.N[l]? = some z) (hij : i ≠ j) (hil : i ≠ l) (hjl : j ≠ l) (hx : X.env.scope.names.lookup x = some .local) (hy : X.env.scope.names.lookup y = some .local) (hz : X.env.scope.names.lookup z = some .local) (ha : PAm X Wx [a, b, c] t)
    (hw : swappedStores [.Tuple [.Name x px, .Name y py, .Name z pz] kt pt] (.Tuple [a, b, c] k2 pt2) X.env = pure (some [x, y, z])) : PSm X Wx (.Assign [.Tuple [.Name x px, .Name y py, .Name z pz] kt pt] (.Tuple [a, b, c] k2 pt2) pos) (sPar3 i j l t) := PS.imp (ps_par3 hc hN hi hj hl hij hil hjl hx hy hz ha hw) fun D σ H h => by
  obtain ⟨ρ, μ, Dm, Em, rs, rm, h, h1, h2, h3, h4, he⟩ := h
  refine ⟨ρ, μ, _, _, rs, rm, h, fun vs H1 xs μ1 g1 r1 m1 ⟨u, v, w, e, q1⟩ => ?_, he.ex rs⟩
  subst e
  obtain ⟨u0, v0, w0, rfl, r2, r3, r4⟩ := r1.three
  exact ⟨u0, v0, w0, rfl, h1 _ _ _ _ g1 ((((rs.mono g1.g).set i r2).set j r3).set l r4) m1 q1⟩
end
section
variable {P : Program} {w : World} {K : PySem.W.Frag} {mg : Str → Option Value} {base : Heap} {k : Nat} {Γ : Nat → MSp} {L : Lib} {c : CK} {Wx : WX} {X : Cx}
theorem At.good (A : At P w K mg base k c Wx X) : Good X Wx := ⟨A.bs.calm, A.tk⟩
theorem At.nodup (A : At P w K mg base k c Wx X) : X.N.Nodup := by rw [A.hN]; exact A.nd
theorem At.slot (A : At P w K mg base k c Wx X) {i : Nat} {x : Str} (h : c.N[i]? = some x) : X.N[i]? = some x := by rw [A.hN]; exact h
theorem At.blk (A : At P w K mg base k c Wx X) (s : Shared) (H : Hp) (scope : Scope) (C : Addr) (cl : List (Str × Addr)) (fp : List Addr) : At P w K mg base k (c.blk scope) W0 (X.blk s H scope (compEnvC scope cl C X.env) fp) where
  bs := ⟨A.bs.prog, A.bs.wd, A.bs.K, A.bs.mg, A.bs.base, A.bs.calm, A.bs.room⟩
  tk := tk0
  hN := A.hN
  nd := A.nd
  sc := by
    show relabel scope X.env = relS scope c.sc
    rw [← A.sc]
    rfl
  fn := fun _ => rfl
theorem At.mg_ (A : At P w K mg base k c Wx X) {x : Str} {o : Option Value} (h : mg x = o) : X.mg x = o := by rw [A.bs.mg]; exact h
theorem At.fnok (A : At P w K mg base k c Wx X) {f : Addr} {fd : FuncData} {ps : List Str} {S : MSp} (F : FnOk P w K mg base (CX P w) k f fd ps (spM K mg S)) : FnOk X.prog X.w X.K X.mg X.base (CX X.prog X.w) k f fd ps (spM X.K X.mg S) := by
  obtain ⟨⟨rfl, rfl, rfl, rfl, rfl, _, _⟩, _⟩ := A
  exact F
theorem At.kk (A : At P w K mg base k c Wx X) {p : PySem.W.Frag → Prop} (h : p K) : p X.K := by rw [A.bs.K]; exact h
theorem At.room (A : At P w K mg base k c Wx X) : Room k X.A := A.bs.room.mono (Nat.le_succ _)
theorem At.u64 (A : At P w K mg base k c Wx X) : X.A.units + 64 < cLine := A.bs.room.units
theorem blk_ok (A : At P w K mg base k c Wx X) {scope : Scope} {own : List (Str × Nat)} (h : blkC c.N c.sc scope own = true) : BlkOk X.N X.env.scope scope own := by
  rw [A.hN, A.sc]
  exact blkOk_by h

/-- x.m(..) of a built-in type -/
theorem m_bm {b : BM} {o e : Expr} {es : List Expr} {mo : ME} {t : MA} {apos cpos : Pos} (A : At P w K mg base k c Wx X) (B : BmOk P w K mg base k b) (ho : PEm X Wx o mo) (ha : PAm X Wx (e :: es) t) (hn : noStar (e :: es) = true) (hc : notCall0 o = true) (hl : (apos.endLine == cpos.line) = true) (h30 : (e :: es).length < 30) :
    PEm X Wx (.Call (.Attribute o b.name apos) (e :: es) [] cpos) (eBM b mo t) := by
  refine PE.imp (pe_bm B.pa B.sl B.ty (B.mt X A.bs) ho ha (base_not hc) ?_ hl (ns_head (ns_cons hn).1) (ns_any (ns_cons hn).2)) fun σ H Q h => ?_
  · rw [ns_all hn]
    simp [backToKw, keywordEach]
    exact h30
  · obtain ⟨ρ, μ, Qm, Em, rs, rm, h, hq, he⟩ := h
    refine ⟨ρ, μ, _, Em, rs, rm, h, fun v H1 x μ1 g1 r1 m1 ⟨ty, q1⟩ => ⟨tyM_V m1 r1 ty, ?_⟩, he⟩
    exact ⟨ρ, μ1, _, Em, rs.mono g1.g, m1, q1, fun vs H2 ws μ2 g2 r2 m2 q2 => ⟨x, ws, μ2, Qm, r1.mono g2.g, r2, m2, q2, hq.mono (g1.trans g2)⟩, he.mono g1⟩
where
  tyM_V {T : String} {H : Hp} {μ : Mem} {v : V} {x : W} (m : RM X.K H μ) (r : RV X.K H v x) (t : tyM T x μ) : tyV X.K T v H := by
    cases r with
    | str z => exact t
    | int z => exact t
    | ref a =>
      rcases t with ⟨e, xs, q⟩ | ⟨e, q⟩
      · obtain ⟨us, s, _⟩ := seq_of m q
        exact .inl ⟨e, us, s⟩
      · rcases q with ⟨kvs, q⟩ | ⟨kvs, q⟩
        · obtain ⟨gs, s, _⟩ := m _ _ q
          exact .inr (.inr (.inl ⟨e, .inl ⟨_, s⟩⟩))
        · obtain ⟨gs, s, _⟩ := m _ _ q
          exact .inr (.inr (.inl ⟨e, .inr ⟨_, s⟩⟩))
    | non => exact t.elim
    | bl z => exact t.elim
    | ty z => exact t.elim
    | tup _ _ => exact t.elim
    | rl _ _ => exact t.elim
theorem m_bm0 {b : BM} {o : Expr} {mo : ME} {apos cpos : Pos} (A : At P w K mg base k c Wx X) (B : BmOk P w K mg base k b) (ho : PEm X Wx o mo) (hc : notCall0 o = true) (hl : (apos.endLine == cpos.line) = true) :
    PEm X Wx (.Call (.Attribute o b.name apos) [] [] cpos) (eBM0 b mo) := by
  refine PE.imp (pe_bm0 B.pa B.sl B.ty (B.mt X A.bs) ho (base_not hc) hl) fun σ H Q h => ?_
  obtain ⟨ρ, μ, Qm, Em, rs, rm, h, hq, he⟩ := h
  exact ⟨ρ, μ, _, Em, rs, rm, h, fun v H1 x μ1 g1 r1 m1 ⟨ty, q1⟩ => ⟨m_bm.tyM_V m1 r1 ty, x, [], μ1, Qm, r1, .nil, m1, q1, hq.mono g1⟩, he⟩
/-- isinstance(e, T) -/
theorem m_isi {T : String} {e : Expr} {m : ME} {z : Str} {p1 p2 pos : Pos} (A : At P w K mg base k c Wx X) (OK : Lib.Ok P w K mg base k Γ L) (hg : Gl X "isinstance") (hz : z = Str.ofString T) (hb : bootBuiltins z = some (.type T)) (hty : z ∈ L.tyns) (hgz : Gl X z) (hok : okN z = true) (he : PEm X Wx e m) (hn : noStar [e] = true) :
    PEm X Wx (.Call (.Name "isinstance" p1) [e, .Name z p2] [] pos) (eUn (oIsi T) m) := by
  obtain ⟨k1, _, k3⟩ := ok_n hok
  refine PE.imp (pe_callB (t := tCons (liftE X.K X.mg Wx m) (tCons (tC (.ty T)) tNil)) call_isi hg (A.mg_ OK.isi) boot_isinstance (pa_cons he (pa_cons (pe_bltn (v := .ty T) hgz (A.mg_ (OK.tys z hty)) hb rfl k3 k1) pa_nil (hs := rfl)) (hs := ns_head hn)) (by decide) (by decide) (ns_head hn) rfl) fun σ H Q h => ?_
  obtain ⟨ρ, μ, Qm, Em, rs, rm, h, hq, hx⟩ := h
  refine ⟨ρ, μ, _, Em, rs, rm, h, fun v H1 x μ1 g1 r1 m1 ⟨t, b, e1, e2, q1⟩ => ?_, hx⟩
  exact ⟨v, .ty T, .type t, .type T, b, rfl, .ty T, tyx_of m1 r1 e1, kit_ty e2, hq _ H1 _ μ1 g1 (.bl b) m1 q1⟩
/-- x(..), x a name that holds a def -/
theorem m_callv {i : Nat} {x : Str} {e : Expr} {es : List Expr} {t : MA} {p pos : Pos} (A : At P w K mg base k c Wx X) (OK : Lib.Ok P w K mg base k Γ L) (hN : X.N[i]? = some x) (hv : Vis X.env.scope x) (hok : okN x = true) (ha : PAm X Wx (e :: es) t) (hn : noStar (e :: es) = true) :
    PEm X Wx (.Call (.Name x p) (e :: es) [] pos) (eCallV L.dfs Γ i t) := ⟨fun pins s σ H Q I h => by
  obtain ⟨ρ, μ, Qm, Em, rs, rm, ⟨f, j, e1, e2, h⟩, hq, he⟩ := h
  obtain ⟨v, hs, rv⟩ := rs.get i _ e1
  cases rv
  obtain ⟨fd, ps, hk, hb, F⟩ := OK.dfs f j e2
  refine wpAny_Call_Name_kw (thn ((pe_var (pos := p) hN hv (ok_n hok).1 (ok_n hok).2.1).run pins s σ H (fun v H1 => v = .ref f ∧ H1 = H) I ⟨.ref f, hs, rfl, rfl⟩) fun u s1 ⟨v, H1, I1, r1, q1⟩ => ?_)
  obtain ⟨rfl, rfl⟩ := q1
  cases r1
  refine PySem.W.callWith_K (h₀ := X.base) I.ok.mod.kin (A.kk (p := fun K => PySem.W.keepIn K (.ref f) = true) hk) (thn (ha.run pos pins s1 σ _ (fun vs H2 => ∃ xs μ2, RVs X.K H2 vs xs ∧ RM X.K H2 μ2 ∧ callM (Γ j) xs μ2 Qm Em ∧ Gr X.K μ _ μ2 H2) I1 ⟨ρ, μ, _, Em, rs, rm, h, fun vs H2 xs μ2 g2 r2 m2 q2 => ⟨xs, μ2, r2, m2, q2, g2⟩, he⟩) fun us s2 ⟨vs, H2, I2, r, q⟩ => ⟨I2.kIn, ?_⟩) (ns_head (ns_cons hn).1) (ns_any (ns_cons hn).2)
  obtain ⟨xs, μ2, r2, m2, q2, g2⟩ := q
  exact run_fnS (A.fnok F) A.room (A.kk (p := fun K => Binds K fd ps []) hb) (passAt A.tk σ) I2 r (callM_sp r2 m2 q2 (hq.mono g2) (he.mono g2))⟩
theorem pa_tys (A : At P w K mg base k c Wx X) (OK : Lib.Ok P w K mg base k Γ L) : ∀ {Ts : List String} {es : List Expr}, cTys c.sc L.tyns Ts es = true → PA X es (fun σ H Q => Q (Ts.map V.ty) H)
  | [], [], _ => PA.imp pa_nil fun σ H Q h => h
  | [], _ :: _, h => by cases h
  | _ :: _, [], h => by cases h
  | T :: Ts, e0 :: es, h => by
    unfold cTys at h
    split at h
    · cases (by assumption : (T :: Ts) = [])
    rotate_left
    · cases h
    rename_i T' Ts' z pz es' q1 q2
    cases q1; cases q2
    simp only [Bool.and_eq_true, decide_eq_true_eq] at h
    obtain ⟨⟨⟨⟨⟨h1, h2⟩, h3⟩, h4⟩, h5⟩, h6⟩ := h
    obtain ⟨k1, _, k3⟩ := ok_n h5
    exact PA.imp (pa_cons (pe_bltn (v := .ty T) (gl_of A.sc h4) (A.mg_ (OK.tys z h3)) h2 rfl k3 k1) (pa_tys A OK h6) (hs := rfl)) fun σ H Q h => h
theorem anyTy_kit {K : PySem.W.Frag} {t : String} : ∀ {Ts : List String} {b : Bool}, anyTy t Ts = some b → PySem.W.kitAny K (.type t) (Ts.map Value.type) = some b
  | [], b, h => by cases h; rfl
  | T :: Ts, b, h => by
    unfold anyTy at h
    split at h
    · rename_i q
      cases h
      exact kitAny_cons (kit_ty q) (fun z => nomatch z) fun _ => rfl
    · rename_i q
      exact kitAny_cons (kit_ty q) (fun _ => anyTy_kit h) fun z => nomatch z
    · cases h
theorem paired_tys : ∀ (Ts : List String), Paired ClsV (Ts.map V.ty) (Ts.map Value.type)
  | [] => .nil
  | T :: Ts => .cons (.ty T) (paired_tys Ts)
theorem m_isit {Ts : List String} {e : Expr} {es : List Expr} {m : ME} {p1 p2 pos : Pos} {kk : Nat} (A : At P w K mg base k c Wx X) (OK : Lib.Ok P w K mg base k Γ L) (hg : Gl X "isinstance") (hT : cTys c.sc L.tyns Ts es = true) (hl : Ts.length ≤ 20) (he : PEm X Wx e m) (hn : noStar [e] = true) :
    PEm X Wx (.Call (.Name "isinstance" p1) [e, .Tuple es kk p2] [] pos) (eUn (oIsit Ts) m) := by
  refine PE.imp (pe_callB call_isiT hg (A.mg_ OK.isi) boot_isinstance (pa_cons he (pa_cons (pe_tup (pa_tys A OK hT)) pa_nil (hs := rfl)) (hs := ns_head hn)) (by decide) (by decide) (ns_head hn) rfl) fun σ H Q h => ?_
  obtain ⟨ρ, μ, Qm, Em, rs, rm, h, hq, hx⟩ := h
  refine ⟨ρ, μ, _, Em, rs, rm, h, fun v H1 x μ1 g1 r1 m1 ⟨t, b, e1, e2, q1⟩ => ?_, hx⟩
  refine ⟨by rw [List.length_map, sizeLine_eq]; omega, fun p hp => ?_⟩
  exact ⟨v, p, Ts.map V.ty, .type t, Ts.map Value.type, b, rfl, upd_same, paired_tys Ts, tyx_of (m1.new hp) (r1.mono (grow_new hp)) e1, anyTy_kit e2, hq _ _ _ μ1 (g1.trans (Gr.new0 hp)) (.bl b) (m1.new hp) q1⟩
/-- stores to o[i] -/
theorem mg_sub {o i : Expr} {mo mi : ME} {vs : List Nat} {r : W → W → W → Mem → (Mem → Prop) → Prop} {pos : Pos} (hs : PSet X (liftSet X.K r)) (ho : PEm X W0 o mo) (hi : PEm X W0 i mi)
    (ha : ∀ v, assign (.Subscript o i pos) X.env v = (do
      let ov ← holding [v] (eval o X.env)
      let iv ← holding [v, ov] (eval i X.env)
      standAt pos
      holding [v, ov, iv] (setItem ov iv v)
      release [v, ov, iv] [])) : PGm X (.Subscript o i pos) vs (gSb mo mi r) := PG.imp (pg_sub ho hi hs ha) fun v σ H Q h => by
  obtain ⟨w, ρ, μ, Qm, r0, rs, rm, h, hq⟩ := h
  refine ⟨ρ, μ, _, _, rs, rm, h, fun ov H1 wo μ1 g1 r1 m1 q1 => ?_, pxq0⟩
  refine ⟨ρ, μ1, _, _, rs.mono g1.g, m1, q1, fun iv H2 wi μ2 g2 r2 m2 q2 => ?_, pxq0⟩
  exact ⟨wo, wi, w, μ2, _, r1.mono g2.g, r2, r0.mono (g1.trans g2).g, m2, q2, fun H3 μ3 g3 m3 q3 => hq σ H3 ρ μ3 (g1.trans (g2.trans g3)) (rs.mono (g1.trans (g2.trans g3)).g) m3 rfl q3⟩
end
section
variable {X : Cx} {Wx : WX} {pos : Pos}
theorem m_dk0 : PEm X Wx (.Dict [] [] pos) eDk0 := PE.imp pe_dnewK fun σ H Q h => by
  obtain ⟨ρ, μ, Qm, Em, rs, rm, h, hq, he⟩ := h
  exact fun p hp => hq _ _ _ _ (Gr.new hp) (.ref p) (rm.put (o := .dk []) (grow_new hp) ⟨[], upd_same, .nil⟩) (h p (rm.fresh hp))
theorem m_dt0 : PEm X Wx (.Dict [] [] pos) eDt0 := PE.imp pe_dnewT fun σ H Q h => by
  obtain ⟨ρ, μ, Qm, Em, rs, rm, h, hq, he⟩ := h
  exact fun p hp => hq _ _ _ _ (Gr.new hp) (.ref p) (rm.put (o := .dt []) (grow_new hp) ⟨[], upd_same, .nil⟩) (h p (rm.fresh hp))
theorem m_dkc {x : Str} {j : Int} {a b} {p1 p2 : Pos} : PEm X Wx (.Dict [some (.Constant (.str x) a p1)] [.Constant (.int j) b p2] pos) (eDkc x j) := PE.imp (pe_disp (pps_cons pe_str pe_int pps_nil) (by rfl) (by rfl) (by simp) (by simp)) fun σ H Q h => by
  obtain ⟨ρ, μ, Qm, Em, rs, rm, h, hq, he⟩ := h
  intro p hp
  refine ⟨upd_same, [(.inr x, .int j)], rfl, by simp, ?_⟩
  have e : upd (upd H p (.dK [])) p (.dK (mergeK [] [(.inr x, .int j)])) = upd H p (.dK [(.inr x, .int j)]) := by
    funext b
    by_cases hb : b = p
    · subst hb; rw [upd_same, upd_same]; rfl
    · rw [upd_ne hb, upd_ne hb, upd_ne hb]
  rw [e]
  exact hq _ _ _ _ (Gr.new hp) (.ref p) (rm.put (o := .dk [(.inr x, .int j)]) (grow_new hp) ⟨_, upd_same, .cons (.int j) .nil⟩) (h p (rm.fresh hp))
end
end MP
set_option Elab.async false
set_option autoImplicit false
set_option linter.all false
set_option maxRecDepth 100000
namespace MP
open PySem PySem.Spec PyProof.Rows L2

section
variable {P : Program} {w : World} {K : PySem.W.Frag} {mg : Str → Option Value} {base : Heap} {k : Nat} {Γ : Nat → MSp} {L : Lib} {c : CK} {Wx : WX} {X : Cx}
theorem At.w0 (A : At P w K mg base k c Wx X) : At P w K mg base k c W0 X := ⟨A.bs, tk0, A.hN, A.nd, A.sc, A.fn⟩
theorem sub_asg {o i : Expr} {pos : Pos} {env : Env} (h : notSlice i = true) : ∀ v, assign (.Subscript o i pos) env v = (do
    let ov ← holding [v] (eval o env)
    let iv ← holding [v, ov] (eval i env)
    standAt pos
    holding [v, ov, iv] (setItem ov iv v)
    release [v, ov, iv] []) := fun v => by
  cases i <;> first
    | rfl
    | (simp [notSlice] at h)
theorem map_fst {α β : Type} {l : List (α × β)} {j : Nat} {a : α} (h : (l[j]?).map (·.1) = some a) : ∃ b, l[j]? = some (a, b) := by
  cases e : l[j]? with
  | none => rw [e] at h; cases h
  | some p =>
    rw [e] at h
    obtain ⟨x, y⟩ := p
    cases h
    exact ⟨y, rfl⟩
theorem cls_at {j : Nat} (h : (L.cls[j]?).isSome = true) : ∃ p, L.cls[j]? = some p ∧ clsA L j = p.2.1 ∧ clsI L j = p.2.2 := by
  cases e : L.cls[j]? with
  | none => rw [e] at h; cases h
  | some p => exact ⟨p, rfl, by unfold clsA; rw [e]; rfl, by unfold clsI; rw [e]; rfl⟩
theorem lenGs_eq {env : Env} {vs : List Nat} : ∀ {l : XGs} {es : List Expr}, cGs L c vs l es = true → noStar es = true → (assignEach es env).length = lenGs L Γ l
  | .nil, es, h, _ => by
    unfold cGs at h
    split at h
    · rfl
    · cases h
  | .cons g r, es, h, hn => by
    unfold cGs at h
    split at h
    · cases h
    · simp only [Bool.and_eq_true] at h
      obtain ⟨h1, h2⟩ := ns_cons hn
      rw [ns_assign h1, List.length_cons, lenGs_eq h.1.2 h2]
      rfl
theorem asg_nost {env : Env} : ∀ {es : List Expr}, noStar es = true → (assignEach es env).findIdx? (·.1) = none
  | [], _ => rfl
  | e :: es, h => by
    obtain ⟨h1, h2⟩ := ns_cons h
    rw [ns_assign h1, List.findIdx?_cons, asg_nost h2]
    rfl

mutual
theorem sE (OK : Lib.Ok P w K mg base k Γ L) : ∀ (t : XE) (c : CK) (Wx : WX) (X : Cx) (e : Expr), At P w K mg base k c Wx X → cE L c t e = true → PEm X Wx e (dE L Γ t)
  | .var i, c, Wx, X, e, A, h => by
    unfold cE at h
    split at h
    · simp only [Bool.and_eq_true, decide_eq_true_eq] at h
      exact m_var i (A.slot h.1.1) (vis_of A.sc h.1.2) (ok_n h.2).1 (ok_n h.2).2.1
    · cases h
  | .int i, c, Wx, X, e, A, h => by
    unfold cE at h
    split at h
    · rw [of_decide_eq_true h]; exact m_int
    · cases h
  | .bl i, c, Wx, X, e, A, h => by
    unfold cE at h
    split at h
    · rw [of_decide_eq_true h]; exact m_bl
    · cases h
  | .non, c, Wx, X, e, A, h => by
    unfold cE at h
    split at h
    · exact m_non
    · cases h
  | .str i, c, Wx, X, e, A, h => by
    unfold cE at h
    split at h
    · rw [of_decide_eq_true h]; exact m_str
    · cases h
  | .glob j, c, Wx, X, e, A, h => by
    unfold cE at h
    split at h
    · simp only [Bool.and_eq_true] at h
      obtain ⟨⟨h1, h2⟩, h3⟩ := h
      split at h1
      · rename_i p hp
        obtain ⟨u, v, q1, q2, q3⟩ := OK.cst j p hp
        rw [of_decide_eq_true h1] at q1
        have e0 : dE L Γ (.glob j) = eC p.2 := by show (match L.cst[j]? with | some p => eC p.2 | none => eFalse) = _; rw [hp]
        rw [e0]
        exact m_glob (gl_of A.sc h2) (A.mg_ q1) q2 (fun H => A.kk (p := fun K => RV K H v p.2) (q3 H)) (ok_n h3).1
      · cases h1
    · cases h
  | .tup a, c, Wx, X, e, A, h => by
    unfold cE at h
    split at h
    · exact m_tup (sA OK a c Wx X _ A h)
    · cases h
  | .lst a, c, Wx, X, e, A, h => by
    unfold cE at h
    split at h
    · exact m_lst (sA OK a c Wx X _ A h)
    · cases h
  | .bop j a b, c, Wx, X, e, A, h => by
    unfold cE at h
    split at h
    · simp only [Bool.and_eq_true, decide_eq_true_eq] at h
      obtain ⟨r, hr⟩ := map_fst h.1.1
      have e0 : dE L Γ (.bop j a b) = eOp r (dE L Γ a) (dE L Γ b) := by show eOp ((L.bops[j]?).elim bad2 (·.2)) _ _ = _; rw [hr]; rfl
      rw [e0]
      exact m_op (OK.bops j _ hr X A.bs) (sE OK a c Wx X _ A h.1.2) (sE OK b c Wx X _ A h.2)
    · cases h
  | .neg a, c, Wx, X, e, A, h => by
    unfold cE at h
    split at h
    · exact m_un o_neg (sE OK a c Wx X _ A h)
    · cases h
  | .cop j a b, c, Wx, X, e, A, h => by
    unfold cE at h
    split at h
    · simp only [Bool.and_eq_true, decide_eq_true_eq] at h
      obtain ⟨r, hr⟩ := map_fst h.1.1.1
      have e0 : dE L Γ (.cop j a b) = eOp r (dE L Γ a) (dE L Γ b) := by show eOp ((L.cops[j]?).elim bad2 (·.2)) _ _ = _; rw [hr]; rfl
      rw [e0]
      exact m_cmp (OK.cops j _ hr X A.bs) (sE OK a c Wx X _ A h.1.1.2) (sE OK b c Wx X _ A h.1.2) (beh_not h.2)
    · cases h
  | .chn j j' a b d, c, Wx, X, e, A, h => by
    unfold cE at h
    split at h
    · simp only [Bool.and_eq_true, decide_eq_true_eq] at h
      obtain ⟨⟨⟨⟨⟨⟨h1, h2⟩, h3⟩, h4⟩, h5⟩, h6⟩, h7⟩ := h
      obtain ⟨r, hr⟩ := map_fst h1
      obtain ⟨r', hr'⟩ := map_fst h2
      have e0 : dE L Γ (.chn j j' a b d) = eChain r r' (dE L Γ a) (dE L Γ b) (dE L Γ d) := by show eChain ((L.cops[j]?).elim bad2 (·.2)) ((L.cops[j']?).elim bad2 (·.2)) _ _ _ = _; rw [hr, hr']; rfl
      rw [e0]
      exact m_chain (OK.cops j _ hr X A.bs) (OK.cops j' _ hr' X A.bs) (sE OK a c Wx X _ A h3) (sE OK b c Wx X _ A h4) (sE OK d c Wx X _ A h5) (last_not h7)
    · cases h
  | .ands l, c, Wx, X, e, A, h => by
    unfold cE at h
    split at h
    · exact sAnds OK l c Wx X _ _ A h
    · cases h
  | .ors l, c, Wx, X, e, A, h => by
    unfold cE at h
    split at h
    · exact sOrs OK l c Wx X _ _ A h
    · cases h
  | .not a, c, Wx, X, e, A, h => by
    unfold cE at h
    split at h
    · exact m_not (sE OK a c Wx X _ A h)
    · cases h
  | .ite t a b, c, Wx, X, e, A, h => by
    unfold cE at h
    split at h
    · simp only [Bool.and_eq_true] at h
      exact m_ite (sT OK t c Wx X _ A h.1.1) (sE OK a c Wx X _ A h.1.2) (sE OK b c Wx X _ A h.2)
    · cases h
  | .ix j a b, c, Wx, X, e, A, h => by
    unfold cE at h
    split at h
    · simp only [Bool.and_eq_true] at h
      obtain ⟨⟨⟨h1, h2⟩, h3⟩, h4⟩ := h
      obtain ⟨r, hr⟩ := Option.isSome_iff_exists.mp h1
      have e0 : dE L Γ (.ix j a b) = eOp r (dE L Γ a) (dE L Γ b) := by show eOp ((L.ixs[j]?).getD bad2) _ _ = _; rw [hr]; rfl
      rw [e0]
      exact OK.ixs j r hr X A.bs Wx _ _ _ _ _ (sE OK a c Wx X _ A h2) (sE OK b c Wx X _ A h3) h4
    · cases h
  | .sl a l d, c, Wx, X, e, A, h => by
    unfold cE at h
    split at h
    · simp only [Bool.and_eq_true] at h
      exact m_slice (sE OK a c Wx X _ A h.1.1) (sO OK l c Wx X _ A h.1.2) (sO OK d c Wx X _ A h.2)
    · cases h
  | .call j a, c, Wx, X, e, A, h => by
    unfold cE at h
    split at h
    · simp only [Bool.and_eq_true, decide_eq_true_eq] at h
      obtain ⟨⟨⟨⟨h1, h2⟩, h3⟩, h4⟩, h5⟩ := h
      obtain ⟨f, fd, ps, q1, q2, q3, q4⟩ := OK.fns j _ h1
      exact m_call (A.fnok q4) A.good A.room (gl_of A.sc h2) (A.mg_ q1) (A.kk (p := fun K => PySem.W.keepIn K (.ref f) = true) q2) (A.kk (p := fun K => Binds K fd ps []) q3) (sA OK a c Wx X _ A h4) (ok_n h3).1 (ns_head (ns_cons h5).1) (ns_any (ns_cons h5).2)
    · cases h
  | .bc j a, c, Wx, X, e, A, h => by
    unfold cE at h
    split at h
    · simp only [Bool.and_eq_true, decide_eq_true_eq] at h
      obtain ⟨⟨⟨⟨h1, h2⟩, h3⟩, h4⟩, h5⟩ := h
      obtain ⟨r, hr⟩ := map_fst h1
      have e0 : dE L Γ (.bc j a) = eCB r (dA L Γ a) := by show eCB ((L.bcs[j]?).elim badC (·.2)) _ = _; rw [hr]; rfl
      rw [e0]
      obtain ⟨q1, q2⟩ := OK.bcs j _ hr
      rcases q2 X A.bs with ⟨id, q3, q4⟩ | ⟨id, q3, q4⟩
      · exact m_callB q3 (gl_of A.sc h2) (A.mg_ q1) q4 (sA OK a c Wx X _ A h4) (ok_n h3).2.2 (ok_n h3).1 (ns_head (ns_cons h5).1) (ns_any (ns_cons h5).2)
      · exact m_callTy q3 (gl_of A.sc h2) (A.mg_ q1) q4 (sA OK a c Wx X _ A h4) (ok_n h3).2.2 (ok_n h3).1 (ns_head (ns_cons h5).1) (ns_any (ns_cons h5).2)
    · cases h
  | .isi T a, c, Wx, X, e, A, h => by
    unfold cE at h
    split at h
    · simp only [Bool.and_eq_true, decide_eq_true_eq] at h
      obtain ⟨⟨⟨⟨⟨⟨⟨⟨h1, h2⟩, h3⟩, h4⟩, h4'⟩, h5⟩, h6⟩, h7⟩, h8⟩ := h
      subst h1
      exact m_isi A OK (gl_of A.sc h2) h3 h4 h4' (gl_of A.sc h5) h6 (sE OK a c Wx X _ A h7) h8
    · cases h
  | .bm j o a, c, Wx, X, e, A, h => by
    unfold cE at h
    split at h
    · simp only [Bool.and_eq_true, decide_eq_true_eq] at h
      obtain ⟨⟨⟨⟨⟨⟨h1, h2⟩, h3⟩, h4⟩, h5⟩, h6⟩, h7⟩ := h
      cases hb : L.bms[j]? with
      | none => rw [hb] at h1; cases h1
      | some b =>
        rw [hb] at h1
        cases h1
        have e0 : dE L Γ (.bm j o a) = eBM b (dE L Γ o) (dA L Γ a) := by show (match L.bms[j]? with | some b => eBM b (dE L Γ o) (dA L Γ a) | none => eFalse) = _; rw [hb]
        rw [e0]
        exact m_bm A (OK.bms j b hb) (sE OK o c Wx X _ A h2) (sA OK a c Wx X _ A h3) h4 h5 h6 h7
    · cases h
  | .bm0 j o, c, Wx, X, e, A, h => by
    unfold cE at h
    split at h
    · simp only [Bool.and_eq_true, decide_eq_true_eq] at h
      obtain ⟨⟨⟨h1, h2⟩, h3⟩, h4⟩ := h
      cases hb : L.bms[j]? with
      | none => rw [hb] at h1; cases h1
      | some b =>
        rw [hb] at h1
        cases h1
        have e0 : dE L Γ (.bm0 j o) = eBM0 b (dE L Γ o) := by show (match L.bms[j]? with | some b => eBM0 b (dE L Γ o) | none => eFalse) = _; rw [hb]
        rw [e0]
        exact m_bm0 A (OK.bms j b hb) (sE OK o c Wx X _ A h2) h3 h4
    · cases h
  | .fld q f o, c, Wx, X, e, A, h => by
    unfold cE at h
    split at h
    · simp only [Bool.and_eq_true, decide_eq_true_eq] at h
      obtain ⟨⟨⟨⟨h1, h2⟩, h3⟩, h4⟩, h5⟩ := h
      subst h1
      obtain ⟨p, hp, e1, _⟩ := cls_at (L := L) h3
      show PEm X Wx _ (eFld _ (clsA L q) (dE L Γ o))
      rw [e1]
      exact m_fld (A.kk (p := fun K => Cls K p.2.1) (OK.cls q p hp).2) (A.kk (p := fun K => NoAttr K p.2.1 _) (OK.attrs q _ p h2 hp)) (sE OK o c Wx X _ A h4) (base_not h5)
    · cases h
  | .meth q j m o a, c, Wx, X, e, A, h => by
    unfold cE at h
    split at h
    · simp only [Bool.and_eq_true, decide_eq_true_eq] at h
      obtain ⟨⟨⟨⟨⟨⟨⟨⟨h1, h2⟩, h3⟩, h4⟩, h5⟩, h6⟩, h7⟩, h8⟩, h9⟩ := h
      subst h1
      obtain ⟨p, hp, e1, _⟩ := cls_at (L := L) h3
      obtain ⟨g, fd, ps, q1, q2, q3⟩ := OK.meths q _ j p h2 hp
      show PEm X Wx _ (eMeth (clsA L q) _ (Γ j) (dE L Γ o) (dA L Γ a))
      rw [e1]
      exact m_meth (A.fnok q3) A.good A.room (A.kk (p := fun K => Cls K p.2.1) (OK.cls q p hp).2) (A.kk (p := fun K => Meth K p.2.1 _ g) q1) (A.kk (p := fun K => Binds K fd ps []) q2) (sE OK o c Wx X _ A h4) (sA OK a c Wx X _ A h5)
        (base_not h7) (ns_head (ns_cons h6).1) (ns_any (ns_cons h6).2) _ (meth_tree (base_not h7) h6 h9 h8)
    · cases h
  | .make q a, c, Wx, X, e, A, h => by
    unfold cE at h
    split at h
    · simp only [Bool.and_eq_true, decide_eq_true_eq] at h
      obtain ⟨⟨⟨⟨h1, h2⟩, h3⟩, h4⟩, h5⟩ := h
      obtain ⟨r, hr⟩ := map_fst h1
      obtain ⟨p, hp, e1, e2⟩ := cls_at (L := L) (j := q) (by rw [hr]; rfl)
      rw [hr] at hp
      cases hp
      obtain ⟨g, fd, ps, q1, q2, q3⟩ := OK.mkc q _ hr
      show PEm X Wx _ (eMake (clsA L q) (Γ (clsI L q)) (dA L Γ a))
      rw [e1, e2]
      exact m_make (A.kk (p := fun K => Mk K _ g) q1) (A.fnok q3) A.bs.room (gl_of A.sc h2) (A.mg_ (OK.cls q _ hr).1) (A.kk (p := fun K => Binds K fd ps []) q2) (sA OK a c Wx X _ A h4) (ok_n h3).1 (ns_head (ns_cons h5).1) (ns_any (ns_cons h5).2)
    · cases h
  | .lc it g t a own, c, Wx, X, e, A, h => by
    unfold cE at h
    split at h
    · simp only [Bool.and_eq_true, decide_eq_true_eq] at h
      obtain ⟨⟨⟨⟨⟨⟨h1, h2⟩, h3⟩, h4⟩, h5⟩, h6⟩, h7⟩ := h
      subst h1
      exact m_lc A.bs.calm A.nodup (sI OK it c Wx X _ _ A h2) (blk_ok A h4) (fun s H C cl fp => sG OK g _ W0 _ _ _ (A.blk s H _ C cl fp) h5) (fun s H C cl fp => sIfs OK t _ W0 _ _ (A.blk s H _ C cl fp) h6) (fun s H C cl fp => sE OK a _ W0 _ _ (A.blk s H _ C cl fp) h7) (fold_not h3)
    · cases h
  | .lcb j it g t a own, c, Wx, X, e, A, h => by
    unfold cE at h
    split at h
    · simp only [Bool.and_eq_true, decide_eq_true_eq] at h
      obtain ⟨⟨⟨⟨⟨⟨⟨⟨⟨h1, h2⟩, h3⟩, h4⟩, h5⟩, h6⟩, h7⟩, h8⟩, h9⟩, h10⟩ := h
      subst h4
      obtain ⟨r, hr⟩ := map_fst h1
      have e0 : dE L Γ (.lcb j it g t a own) = eLcI (dI L Γ it) (dG L Γ g) (dIfs L Γ t) (dE L Γ a) (own.map (·.2)) r := by show (match L.lfs[j]? with | some p => eLcI (dI L Γ it) (dG L Γ g) (dIfs L Γ t) (dE L Γ a) (own.map fun q : Str × Nat => q.2) p.2 | none => eFalse) = _; rw [hr]
      rw [e0]
      obtain ⟨q1, q2, q3⟩ := OK.lfs j _ hr
      rcases q3 X A.bs with ⟨id, q4, q5⟩ | ⟨id, q4, q5⟩
      · exact m_lcB q1 q4 (gl_of A.sc h2) (A.mg_ q2) q5 (ok_n h3).2.2 (ok_n h3).1 A.bs.calm A.nodup (sI OK it c Wx X _ _ A h5) (blk_ok A h7) (fun s H C cl fp => sG OK g _ W0 _ _ _ (A.blk s H _ C cl fp) h8) (fun s H C cl fp => sIfs OK t _ W0 _ _ (A.blk s H _ C cl fp) h9) (fun s H C cl fp => sE OK a _ W0 _ _ (A.blk s H _ C cl fp) h10) (fold_not h6)
      · exact m_lcT q1 q4 (gl_of A.sc h2) (A.mg_ q2) q5 (ok_n h3).2.2 (ok_n h3).1 A.bs.calm A.nodup (sI OK it c Wx X _ _ A h5) (blk_ok A h7) (fun s H C cl fp => sG OK g _ W0 _ _ _ (A.blk s H _ C cl fp) h8) (fun s H C cl fp => sIfs OK t _ W0 _ _ (A.blk s H _ C cl fp) h9) (fun s H C cl fp => sE OK a _ W0 _ _ (A.blk s H _ C cl fp) h10) (fold_not h6)
    · cases h
  | .spc j a, c, Wx, X, e, A, h => by
    unfold cE at h
    split at h
    · rename_i p hp
      split at h
      · rename_i es he
        simp only [Bool.and_eq_true] at h
        have e0 : dE L Γ (.spc j a) = eCB p.r (dA L Γ a) := by show (match L.spcs[j]? with | some p => eCB p.r (dA L Γ a) | none => eFalse) = _; rw [hp]
        rw [e0]
        exact OK.spcs j p hp X A.bs Wx e es _ (fun x hx => gl_of A.sc (List.all_eq_true.mp h.2 x hx)) he (sA OK a c Wx X _ A h.1)
      · cases h
    · cases h
  | .dk0, c, Wx, X, e, A, h => by
    unfold cE at h
    split at h
    · exact m_dk0
    · cases h
  | .dt0, c, Wx, X, e, A, h => by
    unfold cE at h
    split at h
    · exact m_dt0
    · cases h
  | .dkc x j, c, Wx, X, e, A, h => by
    unfold cE at h
    split at h
    · simp only [Bool.and_eq_true, decide_eq_true_eq] at h
      obtain ⟨rfl, rfl⟩ := h
      exact m_dkc
    · cases h
  | .callv i a, c, Wx, X, e, A, h => by
    unfold cE at h
    split at h
    · simp only [Bool.and_eq_true, decide_eq_true_eq] at h
      obtain ⟨⟨⟨⟨h1, h2⟩, h3⟩, h4⟩, h5⟩ := h
      exact m_callv A OK (A.slot h1) (vis_of A.sc h2) h3 (sA OK a c Wx X _ A h4) h5
    · cases h
  | .isit Ts a, c, Wx, X, e, A, h => by
    unfold cE at h
    split at h
    · simp only [Bool.and_eq_true, decide_eq_true_eq] at h
      obtain ⟨⟨⟨⟨⟨h1, h2⟩, h3⟩, h4⟩, h5⟩, h6⟩ := h
      subst h1
      exact m_isit A OK (gl_of A.sc h2) h3 h6 (sE OK a c Wx X _ A h4) h5
    · cases h
theorem sAnds (OK : Lib.Ok P w K mg base k Γ L) : ∀ (t : XA) (c : CK) (Wx : WX) (X : Cx) (es : List Expr) (pos : Pos), At P w K mg base k c Wx X → cAnds L c t es = true → PEm X Wx (.BoolOp .And es pos) (dAnds L Γ t)
  | .nil, c, Wx, X, es, pos, A, h => by
    unfold cAnds at h
    cases h
  | .cons a .nil, c, Wx, X, es, pos, A, h => by
    unfold cAnds at h
    split at h
    · cases h
    · simp only [Bool.and_eq_true] at h
      obtain ⟨h1, h2⟩ := h
      split at h2
      · exact m_one (sE OK a c Wx X _ A h1)
      · cases h2
      · cases h2
      · first
          | (rename_i z; cases z; done)
          | (rename_i z _; cases z; done)
  | .cons a (.cons b r), c, Wx, X, es, pos, A, h => by
    unfold cAnds at h
    split at h
    · cases h
    · simp only [Bool.and_eq_true] at h
      obtain ⟨h1, h2⟩ := h
      split at h2
      · first
          | (rename_i z; cases z; done)
          | (rename_i z _; cases z; done)
      · cases h2
      · cases h2
      · exact m_and (sE OK a c Wx X _ A h1) (sAnds OK (.cons b r) c Wx X _ pos A h2)
theorem sOrs (OK : Lib.Ok P w K mg base k Γ L) : ∀ (t : XA) (c : CK) (Wx : WX) (X : Cx) (es : List Expr) (pos : Pos), At P w K mg base k c Wx X → cOrs L c t es = true → PEm X Wx (.BoolOp .Or es pos) (dOrs L Γ t)
  | .nil, c, Wx, X, es, pos, A, h => by
    unfold cOrs at h
    cases h
  | .cons a .nil, c, Wx, X, es, pos, A, h => by
    unfold cOrs at h
    split at h
    · cases h
    · simp only [Bool.and_eq_true] at h
      obtain ⟨h1, h2⟩ := h
      split at h2
      · exact m_one (sE OK a c Wx X _ A h1)
      · cases h2
      · cases h2
      · first
          | (rename_i z; cases z; done)
          | (rename_i z _; cases z; done)
  | .cons a (.cons b r), c, Wx, X, es, pos, A, h => by
    unfold cOrs at h
    split at h
    · cases h
    · simp only [Bool.and_eq_true] at h
      obtain ⟨h1, h2⟩ := h
      split at h2
      · first
          | (rename_i z; cases z; done)
          | (rename_i z _; cases z; done)
      · cases h2
      · cases h2
      · exact m_or (sE OK a c Wx X _ A h1) (sOrs OK (.cons b r) c Wx X _ pos A h2)
theorem sA (OK : Lib.Ok P w K mg base k Γ L) : ∀ (t : XA) (c : CK) (Wx : WX) (X : Cx) (es : List Expr), At P w K mg base k c Wx X → cA L c t es = true → PAm X Wx es (dA L Γ t)
  | .nil, c, Wx, X, es, A, h => by
    unfold cA at h
    split at h
    · exact ma_nil
    · cases h
  | .cons a r, c, Wx, X, es, A, h => by
    unfold cA at h
    split at h
    · cases h
    · simp only [Bool.and_eq_true] at h
      exact ma_cons (sE OK a c Wx X _ A h.1.1) (sA OK r c Wx X _ A h.1.2) (ns_head h.2)
theorem sT (OK : Lib.Ok P w K mg base k Γ L) : ∀ (t : XT) (c : CK) (Wx : WX) (X : Cx) (e : Expr), At P w K mg base k c Wx X → cT L c t e = true → PTm X Wx e (dT L Γ t)
  | .val a, c, Wx, X, e, A, h => by
    unfold cT at h
    simp only [Bool.and_eq_true] at h
    exact mt_val (sE OK a c Wx X _ A h.2) (val_is h.1)
  | .cop j a b, c, Wx, X, e, A, h => by
    unfold cT at h
    split at h
    · simp only [Bool.and_eq_true, decide_eq_true_eq] at h
      obtain ⟨r, hr⟩ := map_fst h.1.1.1
      have e0 : dT L Γ (.cop j a b) = tVal (eOp r (dE L Γ a) (dE L Γ b)) := by show tVal (eOp ((L.cops[j]?).elim bad2 (·.2)) _ _) = _; rw [hr]; rfl
      rw [e0]
      exact mt_cmp (OK.cops j _ hr X A.bs) (sE OK a c Wx X _ A h.1.1.2) (sE OK b c Wx X _ A h.1.2) (beh_not h.2)
    · cases h
  | .ands l, c, Wx, X, e, A, h => by
    unfold cT at h
    split at h
    · exact (sTAnds OK l c Wx X _ _ A h).pt
    · cases h
  | .ors l, c, Wx, X, e, A, h => by
    unfold cT at h
    split at h
    · exact (sTOrs OK l c Wx X _ _ A h).pt
    · cases h
  | .not t, c, Wx, X, e, A, h => by
    unfold cT at h
    split at h
    · exact mt_not (sT OK t c Wx X _ A h)
    · cases h
theorem sTAnds (OK : Lib.Ok P w K mg base k Γ L) : ∀ (t : XTs) (c : CK) (Wx : WX) (X : Cx) (es : List Expr) (pos : Pos), At P w K mg base k c Wx X → cTAnds L c t es = true → PWm X Wx (.BoolOp .And es pos) (dTAnds L Γ t)
  | .nil, c, Wx, X, es, pos, A, h => by
    unfold cTAnds at h
    cases h
  | .cons a .nil, c, Wx, X, es, pos, A, h => by
    unfold cTAnds at h
    split at h
    · cases h
    · simp only [Bool.and_eq_true] at h
      obtain ⟨h1, h2⟩ := h
      split at h2
      · exact mw_and1 (sT OK a c Wx X _ A h1)
      · cases h2
      · cases h2
      · first
          | (rename_i z; cases z; done)
          | (rename_i z _; cases z; done)
  | .cons a (.cons b r), c, Wx, X, es, pos, A, h => by
    unfold cTAnds at h
    split at h
    · cases h
    · simp only [Bool.and_eq_true] at h
      obtain ⟨h1, h2⟩ := h
      split at h2
      · first
          | (rename_i z; cases z; done)
          | (rename_i z _; cases z; done)
      · cases h2
      · cases h2
      · exact mw_and (sT OK a c Wx X _ A h1) (sTAnds OK (.cons b r) c Wx X _ pos A h2)
theorem sTOrs (OK : Lib.Ok P w K mg base k Γ L) : ∀ (t : XTs) (c : CK) (Wx : WX) (X : Cx) (es : List Expr) (pos : Pos), At P w K mg base k c Wx X → cTOrs L c t es = true → PWm X Wx (.BoolOp .Or es pos) (dTOrs L Γ t)
  | .nil, c, Wx, X, es, pos, A, h => by
    unfold cTOrs at h
    cases h
  | .cons a .nil, c, Wx, X, es, pos, A, h => by
    unfold cTOrs at h
    split at h
    · cases h
    · simp only [Bool.and_eq_true] at h
      obtain ⟨h1, h2⟩ := h
      split at h2
      · exact mw_or1 (sT OK a c Wx X _ A h1)
      · cases h2
      · cases h2
      · first
          | (rename_i z; cases z; done)
          | (rename_i z _; cases z; done)
  | .cons a (.cons b r), c, Wx, X, es, pos, A, h => by
    unfold cTOrs at h
    split at h
    · cases h
    · simp only [Bool.and_eq_true] at h
      obtain ⟨h1, h2⟩ := h
      split at h2
      · first
          | (rename_i z; cases z; done)
          | (rename_i z _; cases z; done)
      · cases h2
      · cases h2
      · exact mw_or (sT OK a c Wx X _ A h1) (sTOrs OK (.cons b r) c Wx X _ pos A h2)
theorem sIfs (OK : Lib.Ok P w K mg base k Γ L) : ∀ (t : XTs) (c : CK) (Wx : WX) (X : Cx) (es : List Expr), At P w K mg base k c Wx X → cIfs L c t es = true → PTsm X Wx es (dIfs L Γ t)
  | .nil, c, Wx, X, es, A, h => by
    unfold cIfs at h
    split at h
    · exact mts_nil
    · cases h
  | .cons t r, c, Wx, X, es, A, h => by
    unfold cIfs at h
    split at h
    · simp only [Bool.and_eq_true] at h
      exact mts_one (sT OK t c Wx X _ A h.1)
    · cases h
theorem sO (OK : Lib.Ok P w K mg base k Γ L) : ∀ (t : XO) (c : CK) (Wx : WX) (X : Cx) (e : Option Expr), At P w K mg base k c Wx X → cO L c t e = true → POm X Wx e (dO L Γ t)
  | .none, c, Wx, X, e, A, h => by
    unfold cO at h
    cases e with
    | none => exact mo_none
    | some _ => cases h
  | .some a, c, Wx, X, e, A, h => by
    unfold cO at h
    split at h
    · exact mo_some (sE OK a c Wx X _ A h)
    · cases h
theorem sG (OK : Lib.Ok P w K mg base k Γ L) : ∀ (t : XG) (c : CK) (Wx : WX) (X : Cx) (vs : List Nat) (e : Expr), At P w K mg base k c Wx X → cG L c vs t e = true → PGm X e vs (dG L Γ t)
  | .nm i, c, Wx, X, vs, e, A, h => by
    unfold cG at h
    split at h
    · simp only [Bool.and_eq_true, decide_eq_true_eq] at h
      obtain ⟨q1, q2⟩ := tg_of A.sc A.fn h.1.2
      exact mg_name i A.nodup (A.slot h.1.1) q1 h.2 q2
    · cases h
  | .tup l, c, Wx, X, vs, e, A, h => by
    unfold cG at h
    split at h
    · simp only [Bool.and_eq_true] at h
      exact mg_tup A.bs.calm (sGs OK l c Wx X vs _ A h.1) (lenGs_eq h.1 h.2) (asg_nost h.2)
    · cases h
  | .sub j o i, c, Wx, X, vs, e, A, h => by
    unfold cG at h
    split at h
    · simp only [Bool.and_eq_true] at h
      obtain ⟨⟨⟨h1, h2⟩, h3⟩, h4⟩ := h
      obtain ⟨r, hr⟩ := Option.isSome_iff_exists.mp h1
      have e0 : dG L Γ (.sub j o i) = gSb (dE L Γ o) (dE L Γ i) r := by show gSb _ _ ((L.sets[j]?).getD _) = _; rw [hr]; rfl
      rw [e0]
      exact mg_sub (OK.sets j r hr X A.bs) (sE OK o c W0 X _ A.w0 h2) (sE OK i c W0 X _ A.w0 h3) (sub_asg h4)
    · cases h
theorem sGs (OK : Lib.Ok P w K mg base k Γ L) : ∀ (t : XGs) (c : CK) (Wx : WX) (X : Cx) (vs : List Nat) (es : List Expr), At P w K mg base k c Wx X → cGs L c vs t es = true → PGsm X es vs (dGs L Γ t)
  | .nil, c, Wx, X, vs, es, A, h => by
    unfold cGs at h
    split at h
    · exact mgs_nil
    · cases h
  | .cons g r, c, Wx, X, vs, es, A, h => by
    unfold cGs at h
    split at h
    · cases h
    · simp only [Bool.and_eq_true] at h
      exact mgs_cons (sG OK g c Wx X vs _ A h.1.1) (sGs OK r c Wx X vs _ A h.1.2) (by rw [ns_assign h.2]; rfl)
theorem sI (OK : Lib.Ok P w K mg base k Γ L) : ∀ (t : XI) (c : CK) (Wx : WX) (X : Cx) (tg e : Expr), At P w K mg base k c Wx X → cI L c t tg e = true → PIm X Wx tg e (dI L Γ t)
  | .seq a, c, Wx, X, tg, e, A, h => by
    unfold cI at h
    exact mi_seq (sE OK a c Wx X _ A h)
  | .fn j a, c, Wx, X, tg, e, A, h => by
    unfold cI at h
    split at h
    · simp only [Bool.and_eq_true] at h
      obtain ⟨⟨⟨⟨h1, h2⟩, h3⟩, h4⟩, h5⟩ := h
      split at h1
      · rename_i p hp
        simp only [Bool.and_eq_true, decide_eq_true_eq, Bool.or_eq_true, Bool.not_eq_true'] at h1
        have e0 : dI L Γ (.fn j a) = iFn p.r (dA L Γ a) := by show (match L.its[j]? with | some p => iFn p.r (dA L Γ a) | none => fun _ _ _ _ => False) = _; rw [hp]
        rw [e0]
        obtain ⟨⟨e1, e2⟩, e3⟩ := h1
        subst e1
        refine (OK.its j p hp).2 X A.bs Wx tg _ _ _ _ _ (fun hb => ?_) e3 (gl_of A.sc h2) h5 (sA OK a c Wx X _ A h4)
        rcases e2 with e2 | e2
        · rw [hb] at e2; cases e2
        · exact e2
      · cases h1
    · cases h
end
end
end MP
set_option Elab.async false
set_option autoImplicit false
set_option linter.all false
set_option maxRecDepth 100000
namespace MP
open PySem PySem.Spec PyProof.Rows L2

section
variable {P : Program} {w : World} {K : PySem.W.Frag} {mg : Str → Option Value} {base : Heap} {k : Nat} {Γ : Nat → MSp} {L : Lib} {c : CK} {Wx : WX} {X : Cx}
theorem hds_m {ns : List Str} {sc : Scope} (hsc : X.env.scope = sc) : ∀ {ps : List (Str × W)} {hds : List ExceptHandler}, cH ps hds ns sc = true → HdsM X ns hds (ps.map fun p => (p.1, sRet (eC p.2)))
  | [], [], _ => .nil
  | [], _ :: _, h => by cases h
  | _ :: _, [], h => by cases h
  | p :: ps, hd :: hds, h => by
    unfold cH at h
    rw [Bool.and_eq_true] at h
    obtain ⟨h1, h2⟩ := h
    split at h1
    · simp only [Bool.and_eq_true, decide_eq_true_eq] at h1
      obtain ⟨⟨⟨⟨e1, e2⟩, e3⟩, e4⟩, e5⟩ := h1
      obtain ⟨nm, w0⟩ := p
      simp only at e1
      subst e1
      refine .cons e2 (gl_of hsc e3) (ok_n e4).1 (fun a pn => ms_one (ms_ret ?_)) (hds_m hsc h2)
      split at e5
      · rename_i q; simp only at q; subst q; exact m_non
      · rename_i q; simp only at q; subst q; rw [of_decide_eq_true e5]; exact m_bl
      · rename_i q; simp only at q; subst q; rw [of_decide_eq_true e5]; exact m_int
      · rename_i q; simp only at q; subst q; rw [of_decide_eq_true e5]; exact m_str
      · cases e5
    · cases h1
theorem tg_nost {vs : List Nat} {g : XG} {tg : Expr} (h : cG L c vs g tg = true) : noStar [tg] = true := by
  cases g <;> (unfold cG at h; split at h <;> first | rfl | (cases h))
theorem swap_yes {elt : Expr} {gens : List Comprehension} {scope : Scope} {lp py : Pos} {y : Str} {l : Nat} {env : Env} (h1 : env.scope.names.lookup y = some .local) (h2 : env.scope.kind = .function) (h3 : (py.line == lp.line) = true) (h4 : (!(scope.names.any fun q => q.1 == y && (q.2 == .local || q.2 == .cell))) = true) :
    swapsWith (.ListComp elt gens scope lp) (some (.Name y py)) l env = pure true := by
  show (pure (env.blockKind == .function && env.kindOf y == some .local && py.line == lp.line && !(scope.names.any fun (n, k) => n == y && (k == .local || k == .cell))) : Sem Bool) = pure true
  have e1 : env.blockKind = .function := by
    unfold Env.blockKind
    first
      | exact h2
      | (simp [h2])
  have e2 : env.kindOf y = some .local := h1
  rw [e1, e2, h3]
  have e4 : (!(scope.names.any fun (n, k) => n == y && (k == .local || k == .cell))) = true := h4
  rw [e4]
  rfl
section
variable {X : Cx} {Wx : WX}
theorem upd_upd_same {H : Hp} {a : Addr} {u v : HO} : upd (upd H a u) a v = upd H a v := by
  funext b
  by_cases h : b = a
  · subst h; rw [upd_same, upd_same]
  · rw [upd_ne h, upd_ne h, upd_ne h]
/-- the way there and back of a lock -/
theorem lock_in {μ : Mem} {H : Hp} {a : Addr} {kvs : List (List Key × W)} {gs : List (List Key × V)} {od : Obj} (e : H a = some (.dT gs)) (t : RK X.K H gs kvs) (m : RM X.K H μ) :
    Grow X.K H (upd H a (.frz od (.dT gs))) ∧ RM X.K (upd H a (.frz od (.dT gs))) (updM μ a (.rdt od gs kvs)) := by
  have g := grow_mut (K := X.K) (o := .frz od (.dT gs)) e trivial
  exact ⟨g, m.put (o := .rdt od gs kvs) g ⟨upd_same, t.mono g⟩⟩
theorem lock_out {μ μ' : Mem} {H H' : Hp} {a : Addr} {kvs : List (List Key × W)} {gs : List (List Key × V)} {od : Obj} (e : H a = some (.dT gs)) (t : RK X.K H gs kvs) (hm : μ a = some (.dt kvs))
    (g : Gr X.K (updM μ a (.rdt od gs kvs)) (upd H a (.frz od (.dT gs))) μ' H') (m' : RM X.K H' μ') (em : μ' a = some (.rdt od gs kvs)) :
    H' a = some (.frz od (.dT gs)) ∧ Gr X.K μ H (updM μ' a (.dt kvs)) (upd H' a (.dT gs)) ∧ RM X.K (upd H' a (.dT gs)) (updM μ' a (.dt kvs)) ∧ Grow X.K H' (upd H' a (.dT gs)) := by
  have q := (m' a _ em).1
  have g0 := grow_mut (K := X.K) (o := .frz od (.dT gs)) e trivial
  have g2 : Grow X.K H' (upd H' a (.dT gs)) := ⟨fun b xs z => by
    rw [upd_ne (fun w => by subst w; rw [q] at z; cases z)]; exact z, fun b xs z => by
    rcases z with ⟨o, z⟩ | z
    · exact .inl ⟨o, by rw [upd_ne (fun w => by subst w; rw [q] at z; cases z)]; exact z⟩
    · exact .inr z⟩
  have gg : Grow X.K H (upd H' a (.dT gs)) := (g0.trans g.g).trans g2
  refine ⟨q, ⟨gg, fun b o hb hn => ?_⟩, m'.put (o := .dt kvs) g2 ⟨gs, upd_same, t.mono gg⟩, g2⟩
  have hne : b ≠ a := fun z => by subst z; rw [hm] at hn; cases hn
  obtain ⟨h1, h2⟩ := g.f b o (by rw [upd_ne hne]; exact hb) (by rw [updM_ne hne]; exact hn)
  exact ⟨by rw [upd_ne hne]; exact h1, by rw [updM_ne hne]; exact h2⟩
theorem ms_lock (i : Nat) {s : Stmt} {m : MS} (h : PSm X Wx s m) : PSm X Wx s (sLock i m) := PS.imp (ps_lock h) fun D σ H z => by
  obtain ⟨ρ, μ, Dm, Em, rs, rm, ⟨a, kvs, hr, hm, h⟩, hn, ht, hb, hc, he⟩ := z
  obtain ⟨gs, e, t⟩ := rm a _ hm
  refine ⟨a, .dT gs, e, trivial, fun od => ?_⟩
  obtain ⟨g0, rm1⟩ := lock_in (X := X) (od := od) e t rm
  refine ⟨ρ, _, _, _, rs.mono g0, rm1, h od gs, ?_, ?_, ?_, ?_, ?_⟩
  · intro σ' H' ρ' μ' g r m' ⟨em, q⟩
    obtain ⟨k1, k2, k3, k4⟩ := lock_out (X := X) e t hm g m' em
    exact ⟨k1, hn _ _ _ _ k2 (r.mono k4) k3 q⟩
  · intro v H' x μ' g r m' ⟨em, q⟩
    obtain ⟨k1, k2, k3, k4⟩ := lock_out (X := X) e t hm g m' em
    exact ⟨k1, ht _ _ _ _ k2 (r.mono k4) k3 q⟩
  · intro σ' H' ρ' μ' g r m' ⟨em, q⟩
    obtain ⟨k1, k2, k3, k4⟩ := lock_out (X := X) e t hm g m' em
    exact ⟨k1, hb _ _ _ _ k2 (r.mono k4) k3 q⟩
  · intro σ' H' ρ' μ' g r m' ⟨em, q⟩
    obtain ⟨k1, k2, k3, k4⟩ := lock_out (X := X) e t hm g m' em
    exact ⟨k1, hc _ _ _ _ k2 (r.mono k4) k3 q⟩
  · intro x H' σ' ρ' μ' cls d g r rx m' q
    exact q.elim
end
mutual
theorem sS (OK : Lib.Ok P w K mg base k Γ L) : ∀ (t : XS) (c : CK) (Wx : WX) (X : Cx) (s : Stmt), AtS P w K mg base k c Wx X → cS L c t s = true → PSm X Wx s (dS L Γ t)
  | .expr a, c, Wx, X, s, A, h => by
    unfold cS at h
    split at h
    · simp only [Bool.and_eq_true] at h
      exact ms_expr (sE OK a c Wx X _ A.at_ h.1) (sw_not h.2)
    · cases h
  | .ret a, c, Wx, X, s, A, h => by
    unfold cS at h
    split at h
    · exact ms_ret (sE OK a c Wx X _ A.at_ h)
    · cases h
  | .retN, c, Wx, X, s, A, h => by
    unfold cS at h
    split at h
    · exact ms_retN
    · cases h
  | .iff t a b, c, Wx, X, s, A, h => by
    unfold cS at h
    split at h
    · simp only [Bool.and_eq_true] at h
      exact ms_if (sT OK t c Wx X _ A.at_ h.1.1) (sSs OK a c Wx X _ A h.1.2) (sSs OK b c Wx X _ A h.2)
    · cases h
  | .asg a g, c, Wx, X, s, A, h => by
    unfold cS at h
    split at h
    · simp only [Bool.and_eq_true] at h
      obtain ⟨⟨⟨h1, h2⟩, h3⟩, h4⟩ := h
      exact ms_asg (sE OK a c Wx X _ A.at_ h1) (sG OK g c Wx X _ _ A.at_ h2) (sw_tgt h3) (sw_stores A.at_.sc h4) (asg_one (tg_nost h2))
    · cases h
  | .aug i j a, c, Wx, X, s, A, h => by
    unfold cS at h
    split at h
    · simp only [Bool.and_eq_true, decide_eq_true_eq] at h
      obtain ⟨⟨⟨h1, h2⟩, h3⟩, h4⟩ := h
      obtain ⟨r, hr⟩ := map_fst h3
      have e0 : dS L Γ (.aug i j a) = sAug i r (dE L Γ a) := by show sAug i ((L.augs[j]?).elim bad2 (·.2)) _ = _; rw [hr]; rfl
      rw [e0]
      obtain ⟨q1, q2⟩ := tg_of A.at_.sc A.at_.fn h2
      exact ms_aug i A.at_.nodup (A.at_.slot h1) q1 (sE OK a c Wx X _ A.at_ h4) (OK.augs j _ hr X A.at_.bs) q2
    · cases h
  | .for_ it g vs b, c, Wx, X, s, A, h => by
    unfold cS at h
    split at h
    · simp only [Bool.and_eq_true] at h
      obtain ⟨⟨⟨h1, h2⟩, h3⟩, h4⟩ := h
      exact ms_for A.at_.good A.po (sI OK it c Wx X _ _ A.at_ h1) (sG OK g c Wx X vs _ A.at_ h3) (sSs OK b c Wx X _ A h4) (fold_not h2)
    · cases h
  | .whl t b, c, Wx, X, s, A, h => by
    unfold cS at h
    split at h
    · simp only [Bool.and_eq_true] at h
      exact ms_while A.po (sT OK t c Wx X _ A.at_ h.1) (sSs OK b c Wx X _ A h.2)
    · cases h
  | .pass, c, Wx, X, s, A, h => by
    unfold cS at h
    split at h
    · exact ms_pass
    · cases h
  | .brk, c, Wx, X, s, A, h => by
    unfold cS at h
    split at h
    · exact ms_break
    · cases h
  | .cnt, c, Wx, X, s, A, h => by
    unfold cS at h
    split at h
    · exact ms_continue
    · cases h
  | .raise0 x, c, Wx, X, s, A, h => by
    unfold cS at h
    split at h
    · simp only [Bool.and_eq_true, decide_eq_true_eq] at h
      obtain ⟨⟨⟨h1, h2⟩, h3⟩, h4⟩ := h
      subst h1
      exact ms_raise0 A.at_.good (OK.excs X A.at_.bs _ h2) (gl_of A.at_.sc h3) (ok_n h4).1
    · cases h
  | .fldS q f o v, c, Wx, X, s, A, h => by
    unfold cS at h
    split at h
    · simp only [Bool.and_eq_true, decide_eq_true_eq] at h
      obtain ⟨⟨⟨⟨⟨h1, h2⟩, h3⟩, h4⟩, h5⟩, h6⟩ := h
      subst h1
      obtain ⟨p, hp, e1, _⟩ := cls_at (L := L) h3
      show PSm X Wx _ (sFldM _ (clsA L q) (dE L Γ o) (dE L Γ v))
      rw [e1]
      exact ms_fld (A.at_.kk (p := fun K => Cls K p.2.1) (OK.cls q p hp).2) (A.at_.kk (p := fun K => NoAttr K p.2.1 _) (OK.attrs q _ p h2 hp)) (sE OK o c Wx X _ A.at_ h4) (sE OK v c Wx X _ A.at_ h5) (sw_not h6)
    · cases h
  | .fldA q f j o v, c, Wx, X, s, A, h => by
    unfold cS at h
    split at h
    · simp only [Bool.and_eq_true, decide_eq_true_eq] at h
      obtain ⟨⟨⟨⟨⟨h1, h2⟩, h3⟩, h4⟩, h5⟩, h6⟩ := h
      subst h1
      obtain ⟨p, hp, e1, _⟩ := cls_at (L := L) h3
      obtain ⟨r, hr⟩ := map_fst h6
      show PSm X Wx _ (sFldAugM _ (clsA L q) ((L.augs[j]?).elim bad2 (·.2)) (dE L Γ o) (dE L Γ v))
      rw [e1, hr]
      exact ms_fldaug (A.at_.kk (p := fun K => Cls K p.2.1) (OK.cls q p hp).2) (A.at_.kk (p := fun K => NoAttr K p.2.1 _) (OK.attrs q _ p h2 hp)) (OK.augs j _ hr X A.at_.bs) (sE OK o c Wx X _ A.at_ h4) (sE OK v c Wx X _ A.at_ h5)
    · cases h
  | .setLc i it g t a own, c, Wx, X, s, A, h => by
    unfold cS at h
    split at h
    · simp only [Bool.and_eq_true, decide_eq_true_eq] at h
      obtain ⟨⟨⟨⟨⟨⟨⟨⟨⟨⟨⟨h1, h2⟩, h3⟩, h4⟩, h5⟩, h6⟩, h7⟩, h8⟩, h9⟩, h10⟩, h11⟩, h12⟩ := h
      subst h1
      exact ms_setLc A.at_.bs.calm A.at_.nodup (A.at_.slot h2) (by rw [A.at_.sc]; exact h3) (swap_yes (by rw [A.at_.sc]; exact h3) (by rw [A.at_.sc]; exact h4) h5 h6) (sI OK it c Wx X _ _ A.at_ h7) (blk_ok A.at_ h9) (fun s H C cl fp => sG OK g _ W0 _ _ _ (A.at_.blk s H _ C cl fp) h10) (fun s H C cl fp => sIfs OK t _ W0 _ _ (A.at_.blk s H _ C cl fp) h11) (fun s H C cl fp => sE OK a _ W0 _ _ (A.at_.blk s H _ C cl fp) h12) (fold_not h8)
    · cases h
  | .par2 i j a, c, Wx, X, s, A, h => by
    unfold cS at h
    split at h
    · simp only [Bool.and_eq_true, decide_eq_true_eq, Bool.not_eq_true'] at h
      obtain ⟨⟨⟨⟨⟨⟨⟨⟨⟨⟨⟨h1, h2⟩, h3⟩, h4⟩, h5⟩, h6⟩, h7⟩, h8⟩, h9⟩, h10⟩, h11⟩, h12⟩ := h
      exact ms_par A.at_.bs.calm A.at_.nodup (A.at_.slot h1) (A.at_.slot h2) h3 (by rw [A.at_.sc]; exact h5) (by rw [A.at_.sc]; exact h6) (sA OK a c Wx X _ A.at_ h12) (swap2 (by rw [A.at_.sc]; exact h5) (by rw [A.at_.sc]; exact h6) (by rw [A.at_.sc]; exact h7) h8 h4 h9 h10 h11)
    · cases h
  | .par3 i j l a, c, Wx, X, s, A, h => by
    unfold cS at h
    split at h
    · simp only [Bool.and_eq_true, decide_eq_true_eq, Bool.not_eq_true'] at h
      obtain ⟨⟨⟨⟨⟨⟨⟨⟨⟨⟨⟨⟨⟨⟨⟨⟨⟨⟨h1, h2⟩, h3⟩, h4⟩, h5⟩, h6⟩, h7⟩, h8⟩, h9⟩, h10⟩, h11⟩, h12⟩, h13⟩, h14⟩, h15⟩, h16⟩, h17⟩, h18⟩, h19⟩ := h
      exact ms_par3 A.at_.bs.calm A.at_.nodup (A.at_.slot h1) (A.at_.slot h2) (A.at_.slot h3) h4 h5 h6 (by rw [A.at_.sc]; exact h10) (by rw [A.at_.sc]; exact h11) (by rw [A.at_.sc]; exact h12) (sA OK a c Wx X _ A.at_ h19) (swap3 (by rw [A.at_.sc]; exact h10) (by rw [A.at_.sc]; exact h11) (by rw [A.at_.sc]; exact h12) (by rw [A.at_.sc]; exact h13) h14 h15 h7 h8 h9 h16 h17 h18)
    · cases h
  | .lock i b, c, Wx, X, s, A, h => by
    unfold cS at h
    exact ms_lock i (sS OK b c Wx X s A h)
  | .try_ ns b hs, c, Wx, X, s, A, h => by
    unfold cS at h
    split at h
    · simp only [Bool.and_eq_true, List.all_eq_true, decide_eq_true_eq] at h
      obtain ⟨⟨h1, h2⟩, h3⟩ := h
      have T : XTab X ns := fun a ha b hb => OK.xtab X A.at_.bs a (h1 a ha) b (h1 b hb)
      exact ms_try A.at_.good A.stk A.frm T (fun W pn xe tk po => sSs OK b c W (X.tr pn xe) _ ⟨⟨⟨A.at_.bs.prog, A.at_.bs.wd, A.at_.bs.K, A.at_.bs.mg, A.at_.bs.base, A.at_.bs.calm, A.at_.bs.room⟩, tk, A.at_.hN, A.at_.nd, A.at_.sc, A.at_.fn⟩, po, A.stk, A.frm⟩ h2) (hds_m A.at_.sc h3)
    · cases h
theorem sSs (OK : Lib.Ok P w K mg base k Γ L) : ∀ (t : XSs) (c : CK) (Wx : WX) (X : Cx) (l : List Stmt), AtS P w K mg base k c Wx X → cSs L c t l = true → PSsm X Wx l (dSs L Γ t)
  | .nil, c, Wx, X, l, A, h => by
    unfold cSs at h
    split at h
    · exact ms_nil
    · cases h
  | .cons s .nil, c, Wx, X, l, A, h => by
    unfold cSs at h
    split at h
    · cases h
    · simp only [Bool.and_eq_true] at h
      obtain ⟨h1, h2⟩ := h
      unfold cSs at h2
      split at h2
      · exact ms_one (sS OK s c Wx X _ A h1)
      · cases h2
  | .cons s (.cons s2 r), c, Wx, X, l, A, h => by
    unfold cSs at h
    split at h
    · cases h
    · simp only [Bool.and_eq_true] at h
      exact ms_cons (sS OK s c Wx X _ A h.1) (sSs OK (.cons s2 r) c Wx X _ A h.2)
end

/-! ### a def, a program -/
def runD (L : Lib) (Γ : Nat → MSp) (n m : Nat) (t : XSs) : MSp := fun ws μ Q E => ws.length = m ∧ dSs L Γ t (ws.map some ++ List.replicate (n - ws.length) none) μ { nx := fun _ μ1 => Dn Q .non μ1, rt := Dn Q } (fun x _ μ1 => Dn E x μ1)
theorem start_rs {H : Hp} {N : List Str} {vs : List V} {ws : List W} (r : RVs K H vs ws) : RS K H (L2.start N vs) (ws.map some ++ List.replicate (N.length - ws.length) none) := by
  refine ⟨by simp [L2.start, r.length], fun i x e => ?_⟩
  unfold L2.start
  by_cases hi : i < ws.length
  · rw [List.getElem?_append_left (by simpa using hi), List.getElem?_map] at e
    cases q : ws[i]? with
    | none => rw [q] at e; cases e
    | some y =>
      rw [q] at e
      cases e
      obtain ⟨v, h1, h2⟩ := r.get q
      exact ⟨v, by rw [List.getElem?_append_left (by simpa [r.length] using hi), List.getElem?_map, h1]; rfl, h2⟩
  · rw [List.getElem?_append_right (by simpa using Nat.not_lt.mp hi), List.getElem?_replicate] at e
    split at e <;> cases e
theorem def_ok {x qual : Str} {st : Stmt} {f : Addr} {fd : FuncData} {N ps : List Str} {t : XSs} (OK : Lib.Ok P w K mg base k Γ L) (F : Fun K x qual st f fd) (SC : FnScope N ps (defScope st)) (hc : cSs L ⟨N, defScope st, fun _ => true⟩ t (defBody st) = true) :
    FnOk P w K mg base (CX P w) (k + 1 + 1) f fd ps (spM K mg (runD L Γ N.length ps.length t)) := by
  refine F.okX SC (fun vs H Q E h => ?_) fun cdv A outer s H vs Q E hr h => ?_
  · obtain ⟨ws, μ, Qm, Em, r, m, ⟨h1, _⟩, _⟩ := h
    rw [r.length]
    exact h1
  · obtain ⟨ws, μ, Qm, Em, r, m, ⟨h1, h2⟩, hq, he⟩ := h
    have tk : Takes (cxOf (CX P w) P w K mg base N qual (defScope st) f cdv A outer s H E) (fun cls d _ H => E cls d H) := takes_of rfl rfl rfl rfl
    have AT : AtS P w K mg base k ⟨N, defScope st, fun _ => true⟩ (fun cls d _ H => E cls d H) (cxOf (CX P w) P w K mg base N qual (defScope st) f cdv A outer s H E) :=
      ⟨⟨⟨rfl, rfl, rfl, rfl, rfl, rfl, hr⟩, tk, rfl, SC.nd, rfl, fun _ => rfl⟩, passes_of rfl, rfl, rfl⟩
    refine ⟨_, sSs OK t _ _ _ _ AT hc, _, μ, _, _, start_rs r, m, h2, fun σ' H' ρ' μ' g _ m' q => hq.dn _ H' _ μ' g .non m' q, hq.dn, fun _ _ _ _ _ _ _ q => q.elim, fun _ _ _ _ _ _ _ q => q.elim, fun e H' σ' ρ' μ' cls d g _ rx m' q => he.dn e H' μ' cls d g rx m' q⟩
theorem fn_bad {f : Addr} {fd : FuncData} {ps : List Str} {j : Nat} : FnOk P w K mg base (CX P w) j f fd ps (spM K mg badM) := ⟨fun _ _ _ _ h => by
  obtain ⟨_, _, _, _, _, _, h, _⟩ := h
  exact h.elim, fun _ _ _ _ _ _ _ _ _ _ _ _ _ h => by
  obtain ⟨_, _, _, _, _, _, h, _⟩ := h
  exact h.elim⟩
end
end MP
set_option Elab.async false
set_option autoImplicit false
set_option linter.all false
set_option maxRecDepth 100000
namespace MP
open PySem PySem.Spec PyProof.Rows L2
/-! ### dicts by flat keys -/
theorem of_kW {K : PySem.W.Frag} {H : Hp} {v : V} : ∀ {k : Key}, RV K H v (kW k) → v = kV k
  | .inl i, r => by cases r; rfl
  | .inr x, r => by cases r; rfl
theorem of_kWs {K : PySem.W.Frag} {H : Hp} : ∀ {vs : List V} {ks : List Key}, RVs K H vs (ks.map kW) → vs = ks.map kV
  | _, [], .nil => rfl
  | _, k :: r, .cons h t => by rw [List.map_cons, ← of_kWs t, of_kW h]
section
variable {κ : Type} [DecidableEq κ]
def valM (kvs : List (κ × W)) (k : κ) : Option W := (kvs.find? fun kv => decide (kv.1 = k)).map (·.2)
def putM (kvs : List (κ × W)) (k : κ) (w : W) : List (κ × W) := if (kvs.any fun kv => decide (kv.1 = k)) = true then kvs.map (fun kv => if kv.1 = k then (kv.1, w) else kv) else kvs ++ [(k, w)]
def mergeM (kvs more : List (κ × W)) : List (κ × W) := more.foldl (fun acc kv => putM acc kv.1 kv.2) kvs
theorem valM_cons (p : κ × W) (r : List (κ × W)) (k : κ) : valM (p :: r) k = if p.1 = k then some p.2 else valM r k := by
  unfold valM
  rw [List.find?_cons]
  by_cases e : p.1 = k
  · rw [if_pos e, decide_eq_true e]; rfl
  · rw [if_neg e, decide_eq_false e]
theorem putM_len (kvs : List (κ × W)) (k : κ) (w : W) : (putM kvs k w).length ≤ kvs.length + 1 := by
  unfold putM
  split
  · rw [List.length_map]; omega
  · rw [List.length_append, List.length_cons, List.length_nil]; omega
theorem mergeM_len : ∀ (more kvs : List (κ × W)), (mergeM kvs more).length ≤ kvs.length + more.length
  | [], kvs => Nat.le_refl _
  | p :: r, kvs => by
    have h1 := mergeM_len r (putM kvs p.1 p.2)
    have h2 := putM_len kvs p.1 p.2
    show (mergeM (putM kvs p.1 p.2) r).length ≤ _
    rw [List.length_cons]; omega
variable {K : PySem.W.Frag} {H : Hp}
theorem rk_some : ∀ {gs : List (κ × V)} {kvs : List (κ × W)} {k : κ} {w : W}, RK K H gs kvs → valM kvs k = some w → ∃ v, valV gs k = some v ∧ RV K H v w
  | _, _, _, _, .nil, e => by cases e
  | _, _, k, w, .cons (k := j) (v := v) r t, e => by
    rw [valM_cons] at e
    by_cases h : j = k
    · rw [if_pos h] at e
      cases e
      exact ⟨v, valV_pos (p := (j, v)) h, r⟩
    · rw [if_neg h] at e
      obtain ⟨x, e1, e2⟩ := rk_some t e
      exact ⟨x, (valV_neg (p := (j, v)) h).trans e1, e2⟩
theorem rk_none : ∀ {gs : List (κ × V)} {kvs : List (κ × W)} {k : κ}, RK K H gs kvs → valM kvs k = none → valV gs k = none
  | _, _, _, .nil, e => rfl
  | _, _, k, .cons (k := j) (v := v) r t, e => by
    rw [valM_cons] at e
    by_cases h : j = k
    · rw [if_pos h] at e
      cases e
    · rw [if_neg h] at e
      exact (valV_neg (p := (j, v)) h).trans (rk_none t e)
theorem rk_any : ∀ {gs : List (κ × V)} {kvs : List (κ × W)} (k : κ), RK K H gs kvs → (gs.any fun kv => decide (kv.1 = k)) = kvs.any fun kv => decide (kv.1 = k)
  | _, _, _, .nil => rfl
  | _, _, k, .cons r t => by rw [List.any_cons, List.any_cons, rk_any k t]
theorem rk_snoc {v : V} {w : W} {k : κ} (r0 : RV K H v w) : ∀ {gs : List (κ × V)} {kvs : List (κ × W)}, RK K H gs kvs → RK K H (gs ++ [(k, v)]) (kvs ++ [(k, w)])
  | _, _, .nil => .cons r0 .nil
  | _, _, .cons r t => .cons r (rk_snoc r0 t)
theorem rk_repl {v : V} {w : W} {k : κ} (r0 : RV K H v w) : ∀ {gs : List (κ × V)} {kvs : List (κ × W)}, RK K H gs kvs → RK K H (gs.map fun kv => if kv.1 = k then (kv.1, v) else kv) (kvs.map fun kv => if kv.1 = k then (kv.1, w) else kv)
  | _, _, .nil => .nil
  | _, _, .cons (k := j) r t => by
    rw [List.map_cons, List.map_cons]
    by_cases h : j = k
    · rw [if_pos h, if_pos h]
      exact .cons r0 (rk_repl r0 t)
    · rw [if_neg h, if_neg h]
      exact .cons r (rk_repl r0 t)
theorem rk_putM {v : V} {w : W} {k : κ} {gs : List (κ × V)} {kvs : List (κ × W)} (r0 : RV K H v w) (r : RK K H gs kvs) : RK K H (putK gs k v) (putM kvs k w) := by
  unfold putK putM
  rw [rk_any k r]
  split
  · exact rk_repl r0 r
  · exact rk_snoc r0 r
theorem rk_keys : ∀ {gs : List (κ × V)} {kvs : List (κ × W)}, RK K H gs kvs → gs.map (·.1) = kvs.map (·.1)
  | _, _, .nil => rfl
  | _, _, .cons r t => by rw [List.map_cons, List.map_cons, rk_keys t]
end
theorem rk_merge {K : PySem.W.Frag} {H : Hp} : ∀ {more : List (Key × V)} {ms : List (Key × W)} {gs : List (Key × V)} {kvs : List (Key × W)}, RK K H more ms → RK K H gs kvs → RK K H (mergeK gs more) (mergeM kvs ms)
  | _, _, _, _, .nil, r => r
  | _, _, gs, kvs, .cons (k := k) (v := v) (w := w) (r := rs) (t := ts) r0 t, r => by
    show RK K H (mergeK (putK gs k v) rs) (mergeM (putM kvs k w) ts)
    exact rk_merge t (rk_putM r0 r)

/-! ### readings -/
/-- d[k] = v -/
def sDk : W → W → W → Mem → (Mem → Prop) → Prop
  | .ref a, y, v, μ, Q => ∃ kvs k, μ a = some (.dk kvs) ∧ y = kW k ∧ kvs.length < sizeLine ∧ Q (updM μ a (.dk (putM kvs k v)))
  | _, _, _, _, _ => False
def mGet : W → List W → Mem → MQ → Prop
  | .ref a, [y, d], μ, Q => ∃ kvs k, μ a = some (.dk kvs) ∧ y = kW k ∧ Q ((valM kvs k).getD d) μ
  | _, _, _, _ => False
def mSetd : W → List W → Mem → MQ → Prop
  | .ref a, [y, d], μ, Q => ∃ kvs k, μ a = some (.dk kvs) ∧ y = kW k ∧ kvs.length < sizeLine ∧ (∀ w, valM kvs k = some w → Q w μ) ∧ (valM kvs k = none → Q d (updM μ a (.dk (putM kvs k d))))
  | _, _, _, _ => False
def pairK (kv : Key × W) : W := .tup [kW kv.1, kv.2]
/-- dict(xs), xs a list of pairs -/
def oDictOf : OC
  | [.ref a], μ, Q => ∃ kvs : List (Key × W), μ a = some (.lst (kvs.map pairK)) ∧ ∀ p, μ p = none → Q (.ref p) (updM μ p (.dk (mergeM [] kvs)))
  | _, _, _ => False
/-- sorted(xs): ints of a list; the keys of a dict, ints -/
def oSortI : OC
  | [.ref a], μ, Q => ∃ ns : List Int, μ a = some (.lst (ns.map W.int)) ∧ ∀ ys : List Int, ys.Perm ns → ys.Pairwise (· ≤ ·) → ∀ p, μ p = none → Q (.ref p) (updM μ p (.lst (ys.map W.int)))
  | _, _, _ => False
def oSortD : OC
  | [.ref a], μ, Q => ∃ (kvs : List (Key × W)) (ks : List Int), μ a = some (.dk kvs) ∧ kvs.map (·.1) = ks.map Sum.inl ∧ ks.length < 64 ∧ ∀ ys : List Int, ys.Perm ks → ys.Pairwise (· ≤ ·) → ∀ p, μ p = none → Q (.ref p) (updM μ p (.lst (ys.map W.int)))
  | _, _, _ => False
/-- repr(b) -/
def bText (b : Bool) : Str := if b then "True" else "False"
def oRepr : OC
  | [.bl b], μ, Q => Q (.str (bText b)) μ
  | _, _, _ => False
/-- < of ints, of tuples of ints -/
def oLtG : O2
  | .int i, .int j, μ, Q => Q (.bl (decide (i < j))) μ
  | .tup xs, .tup ys, μ, Q => ∃ ns ms : List Int, xs = ns.map W.int ∧ ys = ms.map W.int ∧ Q (.bl (HT.lexLt ns ms)) μ
  | _, _, _, _ => False

section
variable {X : Cx}
theorem s_dk (hu : X.A.units + 1 < cLine) : PSet X (liftSet X.K sDk) := by
  intro pins s σ H o i v ov iv u Q I ro ri rv h
  obtain ⟨wo, wi, wv, μ, Qm, r0, r1, r2, m, h, hq⟩ := h
  unfold sDk at h
  split at h
  · cases r0
    obtain ⟨kvs, k, e, rfl, l, h⟩ := h
    obtain ⟨gs, q, t⟩ := m _ _ e
    have ek := of_kW r1
    subst ek
    refine set_dict hu pins s σ H _ _ v ov iv u Q I ro ri rv ⟨_, _, rfl, DPut.k q (by rw [t.length]; exact l), ?_⟩
    have g := grow_mut (K := X.K) (o := .dK (putK gs k v)) q trivial
    exact hq _ _ (Gr.mut q trivial e) (m.put (o := .dk (putM kvs k _)) g ⟨_, upd_same, (rk_putM r2 t).mono g⟩) h
  · exact h.elim
theorem m_get (hu : X.A.units + 1 < cLine) : MtR X "dict.get" (liftM X.K mGet) := by
  intro pins s σ H x vs v us Q I rx rv h
  obtain ⟨wx, xs, μ, Qm, r0, r1, m, h, hq⟩ := h
  unfold mGet at h
  split at h
  · cases r0
    obtain ⟨v0, v1, rfl, r2, r3⟩ := r1.two
    obtain ⟨kvs, k, e, rfl, h⟩ := h
    obtain ⟨gs, q, t⟩ := m _ _ e
    have ek := of_kW r2
    subst ek
    cases rx
    cases rv with
    | cons ry rv =>
      cases rv with
      | cons rd rv =>
        cases rv
        refine d_get2 hu I (DGet.k q) ry rd fun w' s' I' rw' => ?_
        refine ⟨_, H, I', rw', ?_⟩
        cases hv : valM kvs k with
        | none =>
          rw [hv] at h
          rw [rk_none t hv]
          exact hq _ H _ μ Gr.refl r3 m h
        | some y =>
          rw [hv] at h
          obtain ⟨z, e1, e2⟩ := rk_some t hv
          rw [e1]
          exact hq _ H _ μ Gr.refl e2 m h
  · exact h.elim
theorem m_setd : MtR X "dict.setdefault" (liftM X.K mSetd) := by
  intro pins s σ H x vs v us Q I rx rv h
  obtain ⟨wx, xs, μ, Qm, r0, r1, m, h, hq⟩ := h
  unfold mSetd at h
  split at h
  · cases r0
    obtain ⟨v0, v1, rfl, r2, r3⟩ := r1.two
    obtain ⟨kvs, k, e, rfl, l, h1, h2⟩ := h
    obtain ⟨gs, ea, t⟩ := m _ _ e
    have ek := of_kW r2
    subst ek
    cases rx
    cases rv with
    | cons ry rv =>
      cases rv with
      | cons rd rv =>
        cases rv
        obtain ⟨z, hd, vs0, rel, dd⟩ := dk_of I.hok ea
        have hz : vs0.length ≤ sizeLine := by rw [← rel.length]; exact z
        refine call_meetsIn PySem.F.slot_dict_setdefault dd.typeIs PySem.F.entry_dict_setdefault (PySem.F.args_dict_setdefault_3 _ _ _) (kt_meets_setdefault (mixKind X.prog X.w) _ (kV_is ry) hd _) ⟨vs0, dd, hz, fun u hu => ?_, fun hn h' dd' hs => ?_⟩
        · have rr := rel.val k
          rw [hu] at rr
          cases hv : valM kvs k with
          | none => rw [rk_none t hv] at rr; exact False.elim rr
          | some y =>
            obtain ⟨z2, e1, e2⟩ := rk_some t hv
            rw [e1] at rr
            exact (⟨z2, H, I.tok _, rr, hq _ H _ μ Gr.refl e2 m (h1 y hv)⟩ : EP X pins σ Q u _)
        · have rr := rel.val k
          rw [hn] at rr
          cases hv : valM kvs k with
          | some y =>
            obtain ⟨z2, e1, e2⟩ := rk_some t hv
            rw [e1] at rr
            exact False.elim rr
          | none =>
            have hl2 : (putK gs k v1).length ≤ sizeLine := by
              have h9 := length_putK gs k v1
              have h8 := t.length
              omega
            have g := grow_mut (K := X.K) (o := .dK (putK gs k v1)) ea trivial
            exact (⟨v1, _, d_write (t' := s.toks + 1) I (by rw [ea]; exact True.intro) hs (let ⟨q, _, _, hq, _⟩ := dd'; ⟨q, hq⟩) (dk_new hl2 hd (rel.put k rd) dd'), rd,
              hq _ _ _ _ (Gr.mut ea trivial e) (r3.mono g) (m.put (o := .dk (putM kvs k _)) g ⟨_, upd_same, (rk_putM r3 t).mono g⟩) (h2 hv)⟩ : EP X pins σ Q _ _)
  · exact h.elim
theorem paired_of {K : PySem.W.Frag} {H : Hp} : ∀ {vs : List V} {kvs : List (Key × W)}, RVs K H vs (kvs.map pairK) → ∃ (ps : List Addr) (gs : List (Key × V)), vs = ps.map V.ref ∧ Paired (fun p kv => SqT K H p [kV kv.1, kv.2]) ps gs ∧ RK K H gs kvs
  | _, [], .nil => ⟨[], [], rfl, .nil, .nil⟩
  | _, (k, w) :: r, .cons h t => by
    obtain ⟨ps, gs, rfl, h1, h2⟩ := paired_of t
    cases h with
    | tup s q =>
      obtain ⟨v0, v1, rfl, q0, q1⟩ := q.two
      have ek := of_kW q0
      subst ek
      exact ⟨_ :: ps, (k, v1) :: gs, rfl, .cons (sqT_of s) h1, .cons q1 h2⟩
theorem c_dictOf (hc : X.calm = true) : CallR X (.type "dict") (liftC X.K oDictOf) := by
  intro pins s σ H vs us Q I rx h
  obtain ⟨xs, μ, Qm, r, m, h, hq⟩ := h
  unfold oDictOf at h
  split at h
  · obtain ⟨v0, rfl, r0⟩ := r.one
    cases r0
    obtain ⟨kvs, e, h⟩ := h
    obtain ⟨ws, q, t⟩ := seq_of m (.inl e)
    obtain ⟨ps, gs, rfl, h1, h2⟩ := paired_of t
    refine call_dictP hc pins s σ H _ us Q I rx ⟨_, ps, gs, rfl, q, h1, fun p hp => ?_⟩
    exact hq _ _ _ _ (Gr.new hp) (.ref p) (m.put (o := .dk _) (grow_new hp) ⟨_, upd_same, (rk_merge h2 .nil).mono (grow_new hp)⟩) (h p (m.fresh hp))
  · exact h.elim
theorem c_sortI : CallR X (.builtin "sorted") (liftC X.K oSortI) := by
  intro pins s σ H vs us Q I rx h
  obtain ⟨xs, μ, Qm, r, m, h, hq⟩ := h
  unfold oSortI at h
  split at h
  · obtain ⟨v0, rfl, r0⟩ := r.one
    cases r0
    obtain ⟨ns, e, h⟩ := h
    obtain ⟨ws, q, t⟩ := seq_of m (.inl e)
    have ew := t.of_ints
    subst ew
    refine cr_sortedI pins s σ H _ us Q I rx ⟨_, ns, rfl, q, fun ys p h1 h2 hp => ?_⟩
    exact hq _ _ _ _ (Gr.new hp) (.ref p) (m.put (o := .lst _) (grow_new hp) ⟨_, upd_same, RVs.ints ys⟩) (h ys h1 h2 p (m.fresh hp))
  · exact h.elim
theorem c_sortD (hc : X.calm = true) : CallR X (.builtin "sorted") (liftC X.K oSortD) := by
  intro pins s σ H vs us Q I rx h
  obtain ⟨xs, μ, Qm, r, m, h, hq⟩ := h
  unfold oSortD at h
  split at h
  · obtain ⟨v0, rfl, r0⟩ := r.one
    cases r0
    obtain ⟨kvs, ks, e, e2, h64, h⟩ := h
    obtain ⟨gs, q, t⟩ := m _ _ e
    refine call_sortedDI hc pins s σ H _ us Q I rx ⟨_, gs, ks, rfl, .inl q, (rk_keys t).trans e2, h64, fun ys p h1 h2 hp => ?_⟩
    exact hq _ _ _ _ (Gr.new hp) (.ref p) (m.put (o := .lst _) (grow_new hp) ⟨_, upd_same, RVs.ints ys⟩) (h ys h1 h2 p (m.fresh hp))
  · exact h.elim
theorem o_ltG (hu : X.A.units < cLine) : OpR X (compareOp .Lt) (lift2 X.K oLtG) := by
  intro pins s σ H x y v u Q I rx ry h
  obtain ⟨wx, wy, μ, Qm, r1, r2, m, h, hq⟩ := h
  unfold oLtG at h
  split at h
  · cases r1; cases r2
    exact op_lt pins s σ H _ _ v u Q I rx ry ⟨_, _, rfl, rfl, hq _ H _ μ Gr.refl (.bl _) m h⟩
  · obtain ⟨ns, ms, rfl, rfl, h⟩ := h
    cases r1 with
    | tup s1 t1 =>
      cases r2 with
      | tup s2 t2 =>
        have e1 := t1.of_ints
        have e2 := t2.of_ints
        subst e1 e2
        exact op_ltT hu pins s σ H _ _ v u Q I rx ry ⟨_, _, ns, ms, rfl, rfl, sqT_of s1, sqT_of s2, hq _ H _ μ Gr.refl (.bl _) m h⟩
  · exact h.elim
end
end MP
set_option Elab.async false
set_option autoImplicit false
set_option linter.all false
set_option maxRecDepth 100000
namespace MP
open PySem PySem.Spec PyProof.Rows L2
/-! ### dict(xs), xs a list of pairs whose firsts are flat tuples -/
def mergeTV (kvs more : List (List Key × V)) : List (List Key × V) := more.foldl (fun acc kv => putK acc kv.1 kv.2) kvs
def mergeH (acc more : List (List Key × Addr × Value)) : List (List Key × Addr × Value) := more.foldl (fun acc q => storedH acc q.1 q.2.1 q.2.2) acc
theorem rk_mergeT {K : PySem.W.Frag} {H : Hp} : ∀ {more : List (List Key × V)} {ms : List (List Key × W)} {gs : List (List Key × V)} {kvs : List (List Key × W)}, RK K H more ms → RK K H gs kvs → RK K H (mergeTV gs more) (mergeM kvs ms)
  | _, _, _, _, .nil, r => r
  | _, _, gs, kvs, .cons (k := k) (v := v) (w := w) (r := rs) (t := ts) r0 t, r => by
    show RK K H (mergeTV (putK gs k v) rs) (mergeM (putM kvs k w) ts)
    exact rk_mergeT t (rk_putM r0 r)
theorem kt_merge {H : Hp} : ∀ {more : List (List Key × V)} {ms : List (List Key × Addr × Value)} {gs : List (List Key × V)} {xs : List (List Key × Addr × Value)}, KT H more ms → KT H gs xs → KT H (mergeTV gs more) (mergeH xs ms)
  | _, _, _, _, .nil, r => r
  | _, _, gs, xs, .cons (a := p) (b := q) (l₁ := ps) (l₂ := qs) h t, r => by
    obtain ⟨h1, h2, h3⟩ := h
    have e : KT H (putK gs p.1 p.2) (storedH xs q.1 q.2.1 q.2.2) := by
      have := r.put p.1 h2 h3
      rw [← h1]; exact this
    show KT H (mergeTV (putK gs p.1 p.2) ps) (mergeH (storedH xs q.1 q.2.1 q.2.2) qs)
    exact kt_merge t e
theorem storedH_len (xs : List (List Key × Addr × Value)) (k : List Key) (a : Addr) (v : Value) : (storedH xs k a v).length ≤ xs.length + 1 := by
  unfold storedH
  split
  · rw [List.length_map]; omega
  · rw [List.length_append, List.length_cons, List.length_nil]; omega
theorem mergeTV_len : ∀ (more kvs : List (List Key × V)), (mergeTV kvs more).length ≤ kvs.length + more.length
  | [], kvs => Nat.le_refl _
  | p :: r, kvs => by
    have h1 := mergeTV_len r (putK kvs p.1 p.2)
    have h2 := length_putK kvs p.1 p.2
    show (mergeTV (putK kvs p.1 p.2) r).length ≤ _
    rw [List.length_cons]; omega
section
variable {prog : Program} {w : World} {A : Around} {E : Value → Shared → Prop}
/-- the pair at b, its first a key -/
structure KPair (prog : Program) (w : World) (h : Heap) (S I : Addr) (q : List Key × Addr × Value) (b : Addr) : Prop where
  bS : b ≠ S
  bI : b ≠ I
  cS : q.2.1 ≠ S
  cI : q.2.1 ≠ I
  pr : IsTup h b #[.ref q.2.1, q.2.2]
  ks : ∃ its : Array Value, IsTup h q.2.1 its ∧ ItemsAre (mixKind prog w) q.1 its.toList
theorem tk_is {h : Heap} {k : List Key} {c : Addr} {its : Array Value} (t : IsTup h c its) (i : ItemsAre (mixKind prog w) k its.toList) : (tupleKind (mixKind prog w)).is h k c := by
  obtain ⟨o, h1, h2, n, h3⟩ := t
  exact ⟨o, its, n, h1, h2, h3, i⟩
theorem upd_loopT {R : Result → Shared → Prop} {S I l : Addr} {items : Array Value} {res : Value} (hu : A.units + 1 < cLine) (hh : A.handled = none) (hlI : l ≠ I) (hSI : S ≠ I) (hSl : S ≠ l) :
    ∀ (rest : List (List Key × Addr × Value)) (i : Nat) (acc : List (List Key × Addr × Value)) (ix : Int) (t : Tok) (s : Shared), items.size = i + rest.length → acc.length + rest.length ≤ sizeLine →
      (∀ (j : Nat) (q : List Key × Addr × Value), rest[j]? = some q → ∃ b : Addr, items[i + j]? = some (.ref b) ∧ KPair prog w s.heap S I q b) →
      s.heap.IsListIter I l i → s.heap.IsList l items → s.heap.DictOfH (tupleKind (mixKind prog w)) S acc →
      (∀ h' tk, h'.DictOfH (tupleKind (mixKind prog w)) S (mergeH acc rest) → (∀ b o, b ≠ S → b ≠ I → s.heap.get? b = some o → h'.get? b = some o) → R (.ok (.ret res)) { s with heap := h', toks := tk }) →
      codeAny (model prog w) A (.builtin "dict.update.loop" ⟨[.ref S, .ref I, .int ix t, res], []⟩) R s
  | [], i, acc, ix, t, s, hsz, hln, ht, hit, hl, hm, hR => by
    refine codeAny_builtin ud_entry ?_
    rw [Around.under_plainId ud_plain _]
    show wpAny _ A.in1 (pyNext (.ref I) >>= _) _ _ s
    refine wpAny_bind (wpAny_pyNext_list_end (A := A.in1) hh hit hl (by first | exact Array.getElem?_eq_none (Nat.le_of_eq hsz) | (simp at hsz; simp; omega)) fun h' he => ?_)
    show wpAny _ A.in1 (Builtin.Dict.addKeywords S [] >>= _) _ _ _
    refine wpAny_bind (wpAny_pure (wpAny_pure ?_))
    refine hR h' s.toks ?_ fun b o _ hb e => he b o hb e
    obtain ⟨o, es, ep, h1, h2, h3, h4, h5, h6⟩ := hm
    refine ⟨o, es, ep, he _ _ hSI h1, h2, h3, h4, fun x hx => ?_, h6⟩
    obtain ⟨o', vs, n, k1, k2, k3, k4⟩ := h5 x hx
    by_cases hxI : x.2.1 = I
    · obtain ⟨oi, k5, k6, _⟩ := hit
      rw [hxI] at k1
      rw [k1] at k5
      cases k5
      rw [k2] at k6
      exact absurd (Value.type.inj k6) (by decide)
    · exact ⟨o', vs, n, he _ _ hxI k1, k2, k3, k4⟩
  | q :: rest, i, acc, ix, t, s, hsz, hln, ht, hit, hl, hm, hR => by
    obtain ⟨b, hb, kp⟩ := ht 0 q rfl
    obtain ⟨its, kt, ki⟩ := kp.ks
    rw [List.length_cons] at hsz hln
    refine codeAny_builtin ud_entry ?_
    rw [Around.under_plainId ud_plain _]
    show wpAny _ A.in1 (pyNext (.ref I) >>= _) _ _ s
    refine wpAny_bind (wpAny_pyNext_list_item (x := .ref b) hit hl (by simpa using hb) fun h1 hit1 hs1 => ?_)
    have ht1 : IsTup h1 b #[.ref q.2.1, q.2.2] := kp.pr.extBut hs1.extBut kp.bI
    have kt1 : IsTup h1 q.2.1 its := kt.extBut hs1.extBut kp.cI
    have hl1 : h1.IsList l items := hl.extBut hs1.extBut hlI
    have hm1 : h1.DictOfH (tupleKind (mixKind prog w)) S acc := by
      obtain ⟨o, es, ep, m1, m2, m3, m4, m5, m6⟩ := hm
      refine ⟨o, es, ep, hs1.extBut _ _ hSI m1, m2, m3, m4, fun x hx => ?_, m6⟩
      obtain ⟨o', vs, n, k1, k2, k3, k4⟩ := m5 x hx
      by_cases hxI : x.2.1 = I
      · obtain ⟨oi, k5, k6, _⟩ := hit
        rw [hxI] at k1
        rw [k1] at k5
        cases k5
        rw [k2] at k6
        exact absurd (Value.type.inj k6) (by decide)
      · exact ⟨o', vs, n, hs1.extBut _ _ hxI k1, k2, k3, k4⟩
    obtain ⟨o, ho, hc, n, hd⟩ := id ht1
    show wpAny _ A.in1 (holding [Value.ref b] _ >>= _) _ _ _
    refine wpAny_bind (wpAny_holding ?_)
    refine wpAny_bind (wpAny_tryCatch ?_)
    unfold Builtin.Dict.pairItems
    refine wpAny_bind (wpAny_typeOf (T := "tuple") ⟨o, ho, hc⟩ ?_)
    rw [if_pos (by first | decide | rfl | simp)]
    refine wpAny_bind (wpAny_seqItems ho hd (wpAny_pure ?_))
    show wpAny _ A.in1 (holding [Value.ref q.2.1, q.2.2] (dictSet S (.ref q.2.1) q.2.2)) _ _ _
    refine wpAny_holding (wpAny_dictSet_heap (knd := tupleKind (mixKind prog w)) (k := q.1) (tupleKind_room_in1 hu) (tk_is kt1 ki) hm1 (fun h2 hm2 hs2 => ?_) (by omega))
    refine wpAny_pure ⟨plainId_quiet ud_plain _, upd_loopT (items := items) hu hh hlI hSI hSl rest (i + 1) (storedH acc q.1 q.2.1 q.2.2) (ix + 1) 0 _ (show items.size = i + 1 + rest.length by omega) ?_ (fun j q' e => ?_) ?_ ?_ hm2 fun h' tk hd' k => ?_⟩
    · have z := storedH_len acc q.1 q.2.1 q.2.2
      omega
    · obtain ⟨b', hb', kp'⟩ := ht (j + 1) q' (by simpa using e)
      obtain ⟨its', kt', ki'⟩ := kp'.ks
      refine ⟨b', ?_, kp'.bS, kp'.bI, kp'.cS, kp'.cI, (kp'.pr.extBut hs1.extBut kp'.bI).extBut hs2.extBut kp'.bS, its', (kt'.extBut hs1.extBut kp'.cI).extBut hs2.extBut kp'.cS, ki'⟩
      rw [show i + 1 + j = i + (j + 1) by omega]
      exact hb'
    · exact hit1.at fun o' e => hs2.extBut I o' (Ne.symm hSI) e
    · exact hl1.extBut hs2.extBut (Ne.symm hSl)
    · exact hR h' tk hd' fun c oc h3 h4 e => k c oc h3 h4 (hs2.extBut c oc h3 (hs1.extBut c oc h4 e))
theorem call_dict_pairsT {s : Shared} {l : Addr} {ol : Obj} {items : Array Value} {n : Nat} {prs : List (List Key × Addr × Value)} {Q : Value → Shared → Prop} (hu : A.units + 64 < cLine) (hh : A.handled = none) (hl : s.heap.get? l = some ol) (hc : ol.cls = .type "list") (hd : ol.dict = none)
    (hdat : ol.data = .seq items n) (hsz : items.size = prs.length) (hln : prs.length ≤ sizeLine)
    (ht : ∀ (j : Nat) (q : List Key × Addr × Value), prs[j]? = some q → ∃ b : Addr, items[j]? = some (.ref b) ∧ IsTup s.heap b #[.ref q.2.1, q.2.2] ∧ ∃ its : Array Value, IsTup s.heap q.2.1 its ∧ ItemsAre (mixKind prog w) q.1 its.toList)
    (h : ∀ h' tk, h'.DictOfH (tupleKind (mixKind prog w)) s.heap.objs.size (mergeH [] prs) → (∀ b o, s.heap.get? b = some o → h'.get? b = some o) → Q (.ref s.heap.objs.size) { s with heap := h', toks := tk }) :
    wpAny (model prog w) A (call (.type "dict") [.ref l]) Q E s := by
  refine callType_codes (Q₁ := fun obj s₁ => obj = .ref s.heap.objs.size ∧ s₁ = { s with heap := s.heap.push { cls := .type "dict", data := .dict #[] } }) PySem.F.kt_called_dict (PySem.F.kt_typeCall_dict_1 _) PySem.F.entry_dict_init (kt_code_dict_new _ ⟨rfl, rfl⟩) ?_
  rintro obj s₁ ⟨rfl, rfl⟩
  have hnew : (s.heap.push { cls := .type "dict", data := .dict #[] }).DictOfH (tupleKind (mixKind prog w)) s.heap.objs.size [] := Heap.DictOfH.new s.heap
  have hnewT : Shared.TypeIs { s with heap := s.heap.push { cls := .type "dict", data := .dict #[] } } (.ref s.heap.objs.size) "dict" := ⟨_, Heap.get?_push_size _ rfl, rfl⟩
  have k0 : ∀ b o, s.heap.get? b = some o → (s.heap.push { cls := .type "dict", data := .dict #[] }).get? b = some o := fun b o e => Heap.get?_push_of_some _ e
  refine ⟨hnewT, PySem.F.args_dict_init_2 _ _, ?_⟩
  unfold Builtin.«dict.__init__»
  refine wpAny_bind ?_
  unfold Builtin.Dict.selfAndRest
  refine wpAny_bind (wpAny_notOrdered_dict hnewT ?_)
  show wpAny _ _ (pure (s.heap.objs.size, [Value.ref l])) _ _ _
  refine wpAny_pure ?_
  show wpAny _ _ (Builtin.Dict.updateFrom "dict.__init__" s.heap.objs.size (.ref l) [] .none) _ _ _
  unfold Builtin.Dict.updateFrom
  refine wpAny_bind (wpAny_typeOf (T := "list") ⟨ol, k0 _ _ hl, hc⟩ ?_)
  rw [if_pos (by first | decide | rfl | simp)]
  refine wpAny_bind (miss_list (k0 _ _ hl) hc hdat hd hh fun h1 tk1 hk1 => ?_)
  rw [if_pos (show (none : Option Value).isNone = true from rfl)]
  refine wpAny_bind (wpAny_rule ?_)
  have hl1 : h1.IsList l items := ⟨ol, hk1 _ _ (k0 _ _ hl), hc, n, hdat⟩
  have hS1 : s.heap.objs.size < h1.objs.size := by
    have e : (s.heap.push { cls := .type "dict", data := .dict #[] }).get? s.heap.objs.size = some { cls := .type "dict", data := .dict #[] } := Heap.get?_push_size _ rfl
    exact Heap.lt_size (hk1 _ _ e)
  refine wpAny_bind (wpAny_pyIter_list hl1 ?_)
  have k2 : ∀ b o, h1.get? b = some o → (h1.push { cls := .type "list_iterator", data := .fields #[.ref l, .int 0 0] }).get? b = some o := fun b o e => Heap.get?_push_of_some _ e
  have hlt : l < s.heap.objs.size := Heap.lt_size hl
  have hdict : (h1.push { cls := .type "list_iterator", data := .fields #[.ref l, .int 0 0] }).DictOfH (tupleKind (mixKind prog w)) s.heap.objs.size [] := by
    obtain ⟨o, es, ep, m1, m2, m3, m4, m5, m6⟩ := hnew
    exact ⟨o, es, ep, k2 _ _ (hk1 _ _ m1), m2, m3, m4, fun x hx => (by cases hx), m6⟩
  have key := upd_loopT (prog := prog) (w := w) (A := A.in1) (R := wants (fun r s₂ => r = .none ∧ Q (.ref s.heap.objs.size) s₂) E) (S := s.heap.objs.size) (I := h1.objs.size) (l := l) (items := items) (res := Value.none) (by simp only [Around.in1_units]; omega) hh
    (Nat.ne_of_lt (Nat.lt_trans hlt hS1)) (Nat.ne_of_lt hS1) (Nat.ne_of_gt hlt) prs 0 [] 0 0
    { s with heap := h1.push { cls := .type "list_iterator", data := .fields #[.ref l, .int 0 0] }, toks := tk1 } (by rw [hsz, Nat.zero_add]) (by rw [List.length_nil, Nat.zero_add]; exact hln)
    (fun j q e => by
      obtain ⟨b, e1, e2, its, e3, e4⟩ := ht j q e
      have hb : b < s.heap.objs.size := e2.lt
      have hc : q.2.1 < s.heap.objs.size := e3.lt
      exact ⟨b, by rw [Nat.zero_add]; exact e1, Nat.ne_of_lt hb, Nat.ne_of_lt (Nat.lt_trans hb hS1), Nat.ne_of_lt hc, Nat.ne_of_lt (Nat.lt_trans hc hS1), e2.keeps fun c o z => k2 _ _ (hk1 _ _ (k0 _ _ z)), its, e3.keeps fun c o z => k2 _ _ (hk1 _ _ (k0 _ _ z)), e4⟩)
    ⟨_, Heap.get?_push_size _ rfl, rfl, rfl⟩ (hl1.at fun o e => k2 _ _ e) hdict
    (fun h' tk hd' k => ⟨rfl, h h' tk hd' fun b o e => k b o (Nat.ne_of_lt (Heap.lt_size e)) (Nat.ne_of_lt (Nat.lt_trans (Heap.lt_size e) hS1)) (k2 _ _ (hk1 _ _ (k0 _ _ e)))⟩)
  first
    | exact wpAny_pure ⟨plainId_quiet ud_plain _, key⟩
    | exact wpAny_bind (wpAny_pure (wpAny_pure ⟨plainId_quiet ud_plain _, key⟩))
end
def pairT (kv : List Key × W) : W := .tup [.tup (kv.1.map kW), kv.2]
def oDictOfT : OC
  | [.ref a], μ, Q => ∃ kvs : List (List Key × W), μ a = some (.lst (kvs.map pairT)) ∧ ∀ p, μ p = none → Q (.ref p) (updM μ p (.dt (mergeM [] kvs)))
  | _, _, _ => False
section
variable {X : Cx}
theorem pairsT_of {pins : List (Addr × Obj)} {σ : L2.St} {H : Hp} {s : Shared} (I : Inv X pins σ H s) : ∀ {vs : List V} {us : List Value} {kvs : List (List Key × W)}, RVs X.K H vs (kvs.map pairT) → Vals vs us →
    ∃ (prs : List (List Key × Addr × Value)) (gs : List (List Key × V)), RK X.K H gs kvs ∧ KT H gs prs ∧ prs.length = us.length ∧ kvs.length = us.length ∧
      ∀ (j : Nat) (q : List Key × Addr × Value), prs[j]? = some q → ∃ b : Addr, us[j]? = some (.ref b) ∧ IsTup s.heap b #[.ref q.2.1, q.2.2] ∧ ∃ its : Array Value, IsTup s.heap q.2.1 its ∧ ItemsAre (mixKind X.prog X.w) q.1 its.toList
  | _, _, [], .nil, .nil => ⟨[], [], .nil, .nil, rfl, rfl, fun j q e => by simp at e⟩
  | _, _, (k, w) :: r, .cons h t, .cons rv rvs => by
    obtain ⟨prs, gs, h1, h2, h3, h4, h5⟩ := pairsT_of I t rvs
    cases h with
    | @tup b _ _ sb q =>
      cases rv
      obtain ⟨v0, v1, rfl, q0, q1⟩ := q.two
      cases q0 with
      | @tup c vs2 _ sc qc =>
        have ec := of_kWs qc
        subst ec
        obtain ⟨itb, r1, tb, _⟩ := I.tuple (sqT_of sb)
        obtain ⟨u0, y, ei, ru, ry⟩ := vals2 r1
        subst ei
        cases ru
        obtain ⟨itc, r2, tc, _⟩ := I.tuple (sqT_of sc)
        refine ⟨(k, c, y) :: prs, (k, v1) :: gs, .cons q1 h1, .cons ⟨rfl, sc, ry⟩ h2, by rw [List.length_cons, List.length_cons, h3], by rw [List.length_cons, List.length_cons, h4], fun j q e => ?_⟩
        cases j with
        | zero =>
          have e' : (k, c, y) = q := Option.some.inj e
          subst e'
          exact ⟨b, rfl, tb, itc.toArray, tc, by simpa using items_are r2⟩
        | succ j =>
          obtain ⟨b', e1, e2⟩ := h5 j q (by simpa using e)
          exact ⟨b', by simpa using e1, e2⟩
theorem c_dictOfT (hc : X.calm = true) (hu : X.A.units + 64 < cLine) : CallR X (.type "dict") (liftC X.K oDictOfT) := by
  intro pins s σ H vs us Q I rx h
  obtain ⟨xs, μ, Qm, r, m, h, hq⟩ := h
  unfold oDictOfT at h
  split at h
  · obtain ⟨v0, rfl, r0⟩ := r.one
    cases r0
    obtain ⟨kvs, e, h⟩ := h
    obtain ⟨ws, q, t⟩ := seq_of m (.inl e)
    obtain ⟨u, eu, ru⟩ := vals1 rx
    subst eu
    cases ru
    obtain ⟨its, rv, pl, hz⟩ := I.list q
    obtain ⟨prs, gs, h1, h2, h3, h4, h5⟩ := pairsT_of I t rv
    obtain ⟨o, n, ho, hcl, hd, hdat⟩ := pl
    have hzl : prs.length ≤ sizeLine := by rw [h3, ← rv.length]; exact hz
    refine call_dict_pairsT hu (I.ok.hd hc) ho hcl hd hdat (by simp [h3]) hzl (fun j q' e => ?_) fun h' tk hd' k => ?_
    · obtain ⟨b, e1, e2⟩ := h5 j q' e
      exact ⟨b, by simpa using e1, e2⟩
    · have hm : (s.heap.objs.size == sysModules) = false := beq_eq_false_iff_ne.mpr (Nat.ne_of_gt I.big)
      have hp := I.hok.fresh (Nat.le_refl s.heap.objs.size)
      have hlen : (mergeTV [] gs).length ≤ sizeLine := by
        refine Nat.le_trans (mergeTV_len gs []) ?_
        rw [List.length_nil, Nat.zero_add, h1.length, h4, ← h3]
        exact hzl
      have g := grow_new (K := X.K) (o := .dT (mergeTV [] gs)) hp
      have kt : KT (upd H s.heap.objs.size (.dT (mergeTV [] gs))) (mergeTV [] gs) (mergeH [] prs) := (kt_merge h2 .nil).keeps fun b ys hb => g.t _ _ hb
      obtain ⟨od, es, ep, m1, m2, m3, m4, m5, m6⟩ := hd'
      refine ⟨.ref s.heap.objs.size, _, I.laid (t' := tk) (o := .dT (mergeTV [] gs)) k (Nat.le_refl _) (show ObjOk X.prog X.w _ _ _ (.dT (mergeTV [] gs)) from ⟨hlen, hm, mergeH [] prs, kt, od, es, ep, m1, m2, m3, m4, m6⟩), rfl, ?_⟩
      exact hq _ _ _ _ (Gr.new hp) (.ref _) (m.put (o := .dt _) g ⟨_, upd_same, (rk_mergeT h1 .nil).mono g⟩) (h _ (m.fresh hp))
  · exact h.elim
end
end MP
set_option Elab.async false
set_option autoImplicit false
set_option linter.all false
set_option maxRecDepth 100000
namespace MP
open PySem PySem.Spec PyProof.Rows L2
/-! ### sorted(d), d a dict by pairs of ints -/
def pk (p : Int × Int) : List Key := [.inl p.1, .inl p.2]
def pairI (p : Int × Int) : W := .tup [.int p.1, .int p.2]
def LexS (l : List (Int × Int)) : Prop := l.Pairwise fun p q => SrtO.lexB q p = false
def oSortP : OC
  | [.ref a], μ, Q => ∃ (kvs : List (List Key × W)) (ks : List (Int × Int)), μ a = some (.dt kvs) ∧ kvs.map (·.1) = ks.map pk ∧ ∀ ys : List (Int × Int), ys.Perm ks → LexS ys → ∀ p, μ p = none → Q (.ref p) (updM μ p (.lst (ys.map pairI)))
  | _, _, _ => False
/-- the pair that a value is -/
def pairAt (h : Heap) (v : Value) : Int × Int := match v with
  | .ref a => (match h.get? a with
    | some o => (match o.data with
      | .seq ⟨[.int x _, .int y _]⟩ _ => (x, y)
      | _ => (0, 0))
    | none => (0, 0))
  | _ => (0, 0)
theorem pairAt_is {h : Heap} {v : Value} {x y : Int} (p : Srt.IsPair h v x y) : pairAt h v = (x, y) := by
  obtain ⟨a, o, t, u, n, rfl, ho, hc, hd⟩ := p
  unfold pairAt
  simp only [ho, hd]
section
variable {X : Cx}
theorem pairs_at {P : Program} {w : World} {H : Hp} {h : Heap} (ok : HOk P w H h) : ∀ {gs : List (List Key × V)} {xs : List (List Key × Addr × Value)} {ks : List (Int × Int)}, KT H gs xs → gs.map (·.1) = ks.map pk →
    ∃ vs : List Value, (xs.map fun x => Value.ref x.2.1) = vs ∧ vs.map (pairAt h) = ks ∧ (∀ v ∈ vs, ∃ b, v = .ref b ∧ Srt.IsPair h v (pairAt h v).1 (pairAt h v).2 ∧ H b = some (.tup [.int (pairAt h v).1, .int (pairAt h v).2]))
  | [], _, [], .nil, _ => ⟨[], rfl, rfl, fun v hv => by cases hv⟩
  | [], _, _ :: _, .nil, e => by cases e
  | _ :: _, _, [], _, e => by cases e
  | g :: gs, _, k :: ks, .cons (b := x) (l₂ := xs) r t, e => by
    rw [List.map_cons, List.map_cons] at e
    injection e with e1 e2
    obtain ⟨vs, h1, h2, h3⟩ := pairs_at ok t e2
    obtain ⟨r1, r2, _⟩ := r
    rw [e1] at r2
    have r3 : H x.2.1 = some (.tup [.int k.1, .int k.2]) := r2
    obtain ⟨_, its, rv, o, ho, hc, n, hd⟩ := (show ObjOk P w H h x.2.1 (.tup [.int k.1, .int k.2]) from ok _ _ r3)
    obtain ⟨u1, u2, rfl, ri, rj⟩ := vals2 rv
    obtain ⟨t1, rfl⟩ := ri
    obtain ⟨t2, rfl⟩ := rj
    have ip : Srt.IsPair h (.ref x.2.1) k.1 k.2 := ⟨x.2.1, o, t1, t2, n, rfl, ho, hc, hd⟩
    have ep := pairAt_is ip
    refine ⟨.ref x.2.1 :: vs, by rw [List.map_cons, h1], by rw [List.map_cons, h2, ep], fun v hv => ?_⟩
    rcases List.mem_cons.mp hv with rfl | hv
    · rw [ep]
      exact ⟨_, rfl, ip, r3⟩
    · exact h3 v hv
theorem rvs_pairs {K : PySem.W.Frag} {H : Hp} {f : Value → Int × Int} : ∀ {out : List Value}, (∀ v ∈ out, ∃ b, v = .ref b ∧ H b = some (.tup [.int (f v).1, .int (f v).2])) → ∃ vs : List V, Vals vs out ∧ RVs K H vs (out.map fun v => pairI (f v))
  | [], _ => ⟨[], .nil, .nil⟩
  | v :: r, h => by
    obtain ⟨vs, h1, h2⟩ := rvs_pairs (K := K) (H := H) (f := f) (out := r) fun u hu => h u (List.mem_cons_of_mem _ hu)
    obtain ⟨b, rfl, hb⟩ := h v List.mem_cons_self
    exact ⟨.ref b :: vs, .cons rfl h1, .cons (.tup hb (.cons (.int _) (.cons (.int _) .nil))) h2⟩
theorem c_sortP (hc : X.calm = true) : CallR X (.builtin "sorted") (liftC X.K oSortP) := by
  intro pins s σ H vs us Q I rx h
  obtain ⟨xs0, μ, Qm, r, m, h, hq⟩ := h
  unfold oSortP at h
  split at h
  · obtain ⟨v0, rfl, r0⟩ := r.one
    cases r0
    obtain ⟨kvs, ks, e, e2, h⟩ := h
    obtain ⟨u, eu, ru⟩ := vals1 rx
    subst eu
    cases ru
    obtain ⟨gs, q, t⟩ := m _ _ e
    obtain ⟨z, hs, xs, pr, o, es, ep, ho, hx, hdt, he, hn⟩ := (show ObjOk X.prog X.w H s.heap _ (.dT gs) from I.hok _ _ q)
    obtain ⟨vs, ev, ek, hv⟩ := pairs_at I.hok pr ((rk_keys t).trans e2)
    have l1 : es.size = xs.length := size_of_entries he
    have l2 : gs.length = xs.length := Paired.length pr
    have l3 : vs.length = xs.length := by rw [← ev, List.length_map]
    refine Calls.call_function_entry PyProof.Rows.kind_sorted PyProof.Rows.plain_sorted PyProof.Rows.entry_sorted (PyProof.Rows.args_sorted1 _) ?_
    unfold Builtin.«sorted»
    refine wpAny_bind (m := checkCount "sorted" 1 1 _) (wpAny_pure ?_)
    refine wpAny_bind (PySem.W.kdu_collect (A := X.A.in1) (kdl_raw hs hx hdt) (I.ok.hd hc) ho (by omega) fun h' tk acc hk hacc => ?_)
    have ea : acc.toList = vs := by
      rw [← ev]
      have hl : acc.toList.length = xs.length := by rw [Array.length_toList, hacc.1]; exact l1
      apply List.ext_getElem?
      intro j
      rw [List.getElem?_map]
      cases hj : acc.toList[j]? with
      | none =>
        have h1 := List.getElem?_eq_none_iff.mp hj
        rw [List.getElem?_eq_none (by omega)]
        all_goals rfl
      | some v =>
        obtain ⟨en, hen, hv⟩ := hacc.2 j v (by rw [← Array.getElem?_toList]; exact hj)
        have qe := entry_at he j
        rw [hen] at qe
        cases hb : xs[j]? with
        | none =>
          rw [hb] at qe
          exact nomatch (show some en = none from qe)
        | some b =>
          rw [hb] at qe
          have e2 : en = entryOfKey (tupleKind (mixKind X.prog X.w)) b := Option.some.inj qe
          rw [hv, e2]
          all_goals rfl
    rw [ea]
    have I1 : Inv X pins σ H { s with heap := h', toks := tk } := I.kept hk
    have hz : vs.length ≤ sizeLine := by omega
    refine wpAny_bind (wpAny_newList ?_ (by simpa using hz))
    have hoL : (h'.push (PyProof.Rows.seqObj "list" vs.toArray 0)).get? h'.objs.size = some (PyProof.Rows.seqObj "list" vs.toArray 0) := Heap.get?_push_size _ rfl
    show wpAny _ _ _ _ _ { s with heap := h'.push (PyProof.Rows.seqObj "list" vs.toArray 0), toks := tk }
    have kp2 : ∀ b ob, s.heap.get? b = some ob → (h'.push (PyProof.Rows.seqObj "list" vs.toArray 0)).get? b = some ob := fun b ob q => Heap.get?_push_of_some _ (hk b ob q)
    refine wpAny_bind (wpAny_holding (wpAny_call_entry PyProof.Rows.slot_list_sort ⟨_, hoL, rfl⟩ PyProof.Rows.entry_list_sort
      (SrtO.list_sort_ord (s := { s with heap := h'.push (PyProof.Rows.seqObj "list" vs.toArray 0), toks := tk }) (ltv := fun v u => SrtO.lexB (pairAt s.heap v) (pairAt s.heap u)) (SrtO.swo_lex (pairAt s.heap)) hoL hz (fun h2 => ?_) fun out g1 g2 => ⟨_, rfl, ?_⟩) (PyProof.Rows.args_list_sort _)))
    · refine SrtO.pairs_sortableO (by omega) (fun v hm => ?_) fun ob e => ?_
      · obtain ⟨b, _, ip, _⟩ := hv v hm
        exact ip.keeps fun b ob e _ => kp2 b ob e
      · have e' : some ob = some (PyProof.Rows.seqObj "list" vs.toArray 0) := e.symm.trans hoL
        cases e'
        intro c
        exact absurd (Value.type.inj c) (by decide)
    · obtain ⟨e', he'⟩ := PyProof.Rows.sortedHeap_at (vs := vs) (out := out.toArray) hoL
      have hm : ∀ v ∈ out, v ∈ vs := fun v hv => g2.perm.mem_iff.mp hv
      have hp := I1.hok.fresh (Nat.le_refl h'.objs.size)
      obtain ⟨os, o1, o2⟩ := rvs_pairs (K := X.K) (H := H) (f := pairAt s.heap) (out := out) fun v hv' => by
        obtain ⟨b, e, _, hb⟩ := hv v (hm v hv')
        exact ⟨b, e, hb⟩
      have gw := grow_new (K := X.K) (o := .lst os) hp
      have hlen : os.length ≤ sizeLine := by rw [o1.length, g2.len]; exact hz
      refine wpAny_pure ⟨_, rfl, .ref h'.objs.size, upd H h'.objs.size (.lst os), I1.laid (t' := tk) (fun b u e => ?_) (Nat.le_refl _)
        (show ObjOk X.prog X.w _ _ _ (.lst os) from ⟨hlen, out, e', o1, he'⟩), rfl, ?_⟩
      · have hb : b < h'.objs.size := Heap.lt_size e
        rw [PyProof.Rows.sortedHeap_old (Nat.ne_of_lt hb) (by rw [size_push']; exact Nat.lt_succ_of_lt hb)]
        exact Heap.get?_push_of_some _ e
      · have hperm : (out.map (pairAt s.heap)).Perm ks := by rw [← ek]; exact g2.perm.map _
        have hsrt : LexS (out.map (pairAt s.heap)) := List.pairwise_map.mpr g1
        have hfin := h (out.map (pairAt s.heap)) hperm hsrt h'.objs.size (m.fresh hp)
        rw [List.map_map] at hfin
        exact hq _ _ _ _ (Gr.new hp) (.ref _) (m.put (o := .lst _) gw ⟨_, upd_same, o2.mono gw⟩) hfin
  · exact h.elim
/-- repr(b) -/
theorem c_repr : CallR X (.builtin "repr") (liftC X.K oRepr) := by
  intro pins s σ H vs us Q I rx h
  obtain ⟨xs, μ, Qm, r, m, h, hq⟩ := h
  unfold oRepr at h
  split at h
  · obtain ⟨v0, rfl, r0⟩ := r.one
    cases r0
    obtain ⟨u, eu, ru⟩ := vals1 rx
    subst eu
    cases ru
    exact PySem.P.repr_of_bool ⟨.str _, H, I.tok _, ⟨_, rfl⟩, hq _ H _ μ Gr.refl (.str _) m h⟩
  · exact h.elim
end
/-! ### list(range(n)), tuple(range(n)) -/
def stdNames0 : List Str := ["list", "tuple", "range"]
def oRangeOf (f : List W → MQ → Mem → Prop) : OC
  | [.int n], μ, Q => 0 ≤ n ∧ n ≤ 16777216 ∧ f (rangeW 0 n.toNat) Q μ
  | _, _, _ => False
def lookRg (nm : Str) : Expr → Option (List Expr)
  | .Call (.Name x _) [.Call (.Name y _) [a] [] _] [] _ => if x = nm ∧ y = "range" ∧ noStar [a] = true then some [a] else none
  | _ => none
def spListRg : Spc := ⟨["list", "range"], lookRg "list", oRangeOf fList⟩
def spTupRg : Spc := ⟨["tuple", "range"], lookRg "tuple", oRangeOf fTuple⟩
section
variable {P : Program} {w : World} {K : PySem.W.Frag} {mg : Str → Option Value} {base : Heap} {k : Nat}
theorem rgV_W {K : PySem.W.Frag} {H : Hp} {n : Int} : RVs K H (rgV 0 n) (rangeW 0 n.toNat) := by
  unfold rgV rangeW
  rw [Int.sub_zero]
  generalize List.range n.toNat = l
  induction l with
  | nil => exact .nil
  | cons a r ih => exact .cons (.int _) ih
theorem prg_pa {X : Cx} {a : Expr} {ta : TA} {p pos : Pos} (hg : Gl X "range") (hm : X.mg "range" = none) (ha : PA X [a] ta) (na : starEach [a] X.env = (false, eval a X.env) :: starEach [] X.env) :
    PRg X (.Call (.Name "range" p) [a] [] pos) (fun σ H Q => ta σ H fun vs H1 => ∃ n, vs = [V.int n] ∧ Q 0 n H1) := by
  intro pins s σ H Q I h
  refine Call_ (ld_blt I hg hm boot_range (PyProof.Rows.callWith_type1 (thn (ha.run pos pins s σ H _ I h) fun us s2 z => ?_) na rfl))
  obtain ⟨vs, H2, I2, rv, n, rfl, q⟩ := z
  obtain ⟨u, rfl, t, rfl⟩ := vals1 rv
  exact call_range_1 ⟨_, 0, n, _, _, _, H2, rfl, IsRange.new _ _ _ _ _ _ _, I2.kept fun b u e => Heap.get?_push_of_some _ e, q⟩
theorem listRg_ok (hm : ∀ x ∈ stdNames0, mg x = none) : SpcOk P w K mg base k spListRg := by
  intro X B Wx e es t hgl hlook ha
  have hlook' : lookRg "list" e = some es := hlook
  unfold lookRg at hlook'
  split at hlook'
  · rename_i x p y p2 a q pos
    split at hlook'
    · rename_i hc
      obtain ⟨rfl, rfl, hns⟩ := hc
      cases hlook'
      have hm' : ∀ x ∈ stdNames0, X.mg x = none := by rw [B.mg]; exact hm
      refine PE.imp (pe_listRg B.calm (hgl _ (by simp [spListRg])) (hm' _ (by decide)) (prg_pa (hgl _ (by simp [spListRg])) (hm' _ (by decide)) ha (ns_head hns)) (ns_head rfl)) fun σ H Q h => ?_
      obtain ⟨ρ, μ, Qm, Em, rs, rm, h, hq, he⟩ := h
      refine ⟨ρ, μ, _, Em, rs, rm, h, fun vs H1 ws μ1 g1 r1 m1 q1 => ?_, he⟩
      match ws, r1, q1 with
      | [.int n], r1, q1 =>
        obtain ⟨v0, rfl, r0⟩ := r1.one
        cases r0
        obtain ⟨l1, l2, q1⟩ := q1
        refine ⟨n, rfl, .of_le (by decide) (by omega) (by decide) l1, fun p hp => ?_⟩
        exact hq _ _ _ _ (g1.trans (Gr.new hp)) (.ref p) (m1.put (o := .lst _) (grow_new hp) ⟨_, upd_same, rgV_W⟩) (q1 p (m1.fresh hp))
    · cases hlook'
  · cases hlook'
theorem tupleRg_ok (hm : ∀ x ∈ stdNames0, mg x = none) : SpcOk P w K mg base k spTupRg := by
  intro X B Wx e es t hgl hlook ha
  have hlook' : lookRg "tuple" e = some es := hlook
  unfold lookRg at hlook'
  split at hlook'
  · rename_i x p y p2 a q pos
    split at hlook'
    · rename_i hc
      obtain ⟨rfl, rfl, hns⟩ := hc
      cases hlook'
      have hm' : ∀ x ∈ stdNames0, X.mg x = none := by rw [B.mg]; exact hm
      refine PE.imp (pe_tupRg B.calm (hgl _ (by simp [spTupRg])) (hm' _ (by decide)) (prg_pa (hgl _ (by simp [spTupRg])) (hm' _ (by decide)) ha (ns_head hns)) (ns_head rfl)) fun σ H Q h => ?_
      obtain ⟨ρ, μ, Qm, Em, rs, rm, h, hq, he⟩ := h
      refine ⟨ρ, μ, _, Em, rs, rm, h, fun vs H1 ws μ1 g1 r1 m1 q1 => ?_, he⟩
      match ws, r1, q1 with
      | [.int n], r1, q1 =>
        obtain ⟨v0, rfl, r0⟩ := r1.one
        cases r0
        obtain ⟨l1, l2, q1⟩ := q1
        refine ⟨n, rfl, .of_le (by decide) (by omega) (by decide) l1, fun p hp => ?_⟩
        exact hq _ _ _ _ (g1.trans (Gr.new0 hp)) (.tup upd_same rgV_W) (m1.new hp) q1
    · cases hlook'
  · cases hlook'
end
end MP
set_option Elab.async false
set_option autoImplicit false
set_option linter.all false
set_option maxRecDepth 100000
namespace MP
open PySem PySem.Spec PyProof.Rows L2
open AutoSeq1 (wpAny_loadPart')
/-! ### enumerate(t), t a tuple -/
theorem meets_enumT (l : Addr) (items : Array Value) (n : Nat) (dct : Option Addr) (sl : Array (Option Value)) :
    Meets (Builtin.«enumerate.__new__» ⟨[.type "enumerate", .ref l], []⟩) (fun _ R s => s.heap.get? l = some { cls := .type "tuple", dict := dct, data := .seq items n, slots := sl } ∧
      R (.ok (.ret (.ref (s.heap.push { cls := .type "tuple_iterator", data := .fields #[.ref l, .int 0 0] }).objs.size)))
        { s with heap := (s.heap.push { cls := .type "tuple_iterator", data := .fields #[.ref l, .int 0 0] }).push { cls := .type "enumerate", data := .fields #[.none, .bool false, .ref s.heap.objs.size, rawInt 0, .none, .none] } }) :=
  .of_wp fun prog w A R s h => by
    obtain ⟨hp, g, d, tk, os⟩ := s; obtain ⟨hl, h⟩ := h
    have hsub := sub_enumerate
    have hL : Heap.IsTuple (Shared.heap ⟨hp, g, d, tk, os⟩) l items := ⟨_, hl, rfl, n, rfl⟩
    wp_walk using wpAny_loadPart' hl
    refine wpAny_stack_any fun st => wpAny_pure ?_
    split
    · rename_i c _ _ _ _ _
      cases (c == Value.type "enumerate")
      · wp_walk using wpAny_loadPart' hl, wpAny_pyIter_tuple hL
        exact ⟨_, rfl, h⟩
      · wp_walk using wpAny_loadPart' hl, wpAny_pyIter_tuple hL
        exact ⟨_, rfl, h⟩
    · wp_walk using wpAny_loadPart' hl, wpAny_pyIter_tuple hL
      exact ⟨_, rfl, h⟩
section
variable {prog : Program} {w : World} {A : Around} {E : Value → Shared → Prop} {s : Shared}
theorem call_enumT {l : Addr} {items : Array Value} {Q : Value → Shared → Prop} (hL : s.heap.IsTuple l items)
    (h : ∀ h', IsEnum h' (s.heap.objs.size + 1) s.heap.objs.size 0 .none → h'.IsTupleIter s.heap.objs.size l 0 → h'.objs.size = s.heap.objs.size + 2 →
      (∀ b o, s.heap.get? b = some o → h'.get? b = some o) → Q (.ref (s.heap.objs.size + 1)) { s with heap := h' }) :
    wpAny (model prog w) A (call (.type "enumerate") [.ref l]) Q E s := by
  obtain ⟨⟨c, dct, dt, sl⟩, hl, hc, n, hd⟩ := hL
  replace hc : c = .type "tuple" := hc
  replace hd : dt = .seq items n := hd
  subst hc hd
  refine callType_new F.called_enumerate (by decide) (F.typeCall_enumerate_1 _) (F.newCall_enumerate_1 _) (fun obj => F.args_object_init_2 obj _) F.entry_enumerate_new
    (meets_enumT l items n dct sl) ⟨hl, ?_⟩
  have hz : (s.heap.push { cls := .type "tuple_iterator", data := .fields #[.ref l, .int 0 0] }).objs.size = s.heap.objs.size + 1 := Heap.size_push ..
  show _ ∧ _
  rw [hz]
  have he : IsEnum ((s.heap.push { cls := .type "tuple_iterator", data := .fields #[.ref l, .int 0 0] }).push
      { cls := .type "enumerate", data := .fields #[.none, .bool false, .ref s.heap.objs.size, rawInt 0, .none, .none] }) (s.heap.objs.size + 1) s.heap.objs.size 0 .none := by
    have := Heap.get?_push_size (s.heap.push { cls := .type "tuple_iterator", data := .fields #[.ref l, .int 0 0] })
      (o := { cls := .type "enumerate", data := .fields #[.none, .bool false, .ref s.heap.objs.size, rawInt 0, .none, .none] }) rfl
    rw [hz] at this; exact this
  refine ⟨⟨_, he, rfl⟩, h _ he ⟨_, Heap.get?_push_of_some _ (Heap.get?_push_size _ rfl), rfl, rfl⟩ (by rw [Heap.size_push, hz]) fun b o x => Heap.get?_push_of_some _ (Heap.get?_push_of_some _ x)⟩
end
theorem drawsEnd {prog : Program} {w : World} {A : Around} (hh : A.handled = none) (it t : Addr) (items : Array Value) (i : Nat) (hi : items.size ≤ i) :
    Draws prog w A it [it, t] i (fun _ _ => False) (fun j h => j = i ∧ h.IsTupleIter it t i ∧ h.IsTuple t items) where
  live := fun _ _ st => let ⟨o, ho, _⟩ := st.2.1; ⟨o, ho⟩
  frame := fun _ _ _ st hk => ⟨st.1, st.2.1.at fun o e => hk it (by simp) o e, st.2.2.at fun o e => hk t (by simp) o e⟩
  item := fun j s Q E hj st hQ => absurd st.1 (Nat.ne_of_lt hj)
  done := fun s Q E st hE => wpAny_nextOf_tuple_end hh st.2.1 st.2.2 (Array.getElem?_eq_none hi) hE
/-- the tuple at a, each item in a new pair -/
def IteT (K : PySem.W.Frag) (a : Addr) : It :=
  ⟨fun i H => ∃ (xs : List V) (x : V), SqT K H a xs ∧ xs[i]? = some x, fun i H v H' => ∃ T x, v = .ref T ∧ H T = none ∧ H' = upd H T (.tup [.int (i : Nat), x]) ∧ ∀ xs, SqT K H a xs → xs[i]? = some x, fun i H => ∃ xs : List V, SqT K H a xs ∧ xs.length ≤ i⟩
theorem turn_enumT {P : Program} {w : World} {K : PySem.W.Frag} {elts : List Expr} {kk : Nat} {tpos : Pos} (a e it : Addr) :
    Turn P w K (.Tuple elts kk tpos) (IteT K a) [e, it] e (fun i h => (∃ old, IsEnum h e it ((i : Nat) : Int) old) ∧ h.IsTupleIter it a i ∧ e ≠ it) where
  mem := by simp
  obj := fun i h st b hb => by
    obtain ⟨⟨old, he⟩, ⟨o, ho, hc, hd⟩, _⟩ := st
    have e' : b = e ∨ b = it := by simpa using hb
    rcases e' with z | z
    · rw [z]; exact ⟨_, he, fun v q => nomatch q⟩
    · rw [z]; exact ⟨o, ho, fun v q => by rw [hd] at q; cases q⟩
  keep := fun i h h' st k => let ⟨⟨old, he⟩, hi, hne⟩ := st; ⟨⟨old, k e (by simp) _ he⟩, hi.at fun o q => k it (by simp) o q, hne⟩
  item := by
    intro X hP hw hK hc i pins s σ H E I hf st hg
    subst hP hw hK
    obtain ⟨⟨old, he⟩, hit, hne⟩ := st
    obtain ⟨xs, x, hq, hx⟩ := hg
    obtain ⟨its, rv, p, hz⟩ := I.tuple hq
    obtain ⟨u, hu, ru⟩ := rv.get hx
    have hel : e < s.heap.objs.size := Heap.lt_size he
    have hil : it < s.heap.objs.size := by obtain ⟨_, q, _⟩ := hit; exact Heap.lt_size q
    have hT : s.heap.IsTuple a its.toArray := p
    have hai : a ≠ it := fun z => by
      subst z
      obtain ⟨o1, k1, k2, _⟩ := hit
      obtain ⟨o2, k3, k4, _⟩ := hT
      rw [k1] at k3
      cases k3
      rw [k2] at k4
      exact absurd (Value.type.inj k4) (by decide)
    have hea : e ≠ a := fun z => by
      subst z
      obtain ⟨o2, k3, k4, _⟩ := hT
      have he' : s.heap.get? e = some _ := he
      rw [he'] at k3
      cases k3
      exact absurd (Value.type.inj k4) (by decide)
    have hilt : i < its.toArray.size := by
      have := (List.getElem?_eq_some_iff.mp hu).1
      simpa using this
    refine wpAny_pyNext_enum_itemD (Draws.tuple (A := X.A.in1) (I.ok.hd hc) it a hai its.toArray) he ⟨hit, hT⟩ hilt hne (by simp [hne, hea]) fun x0 h' tk hx0 ho st' hT' hsz hk => ?_
    obtain ⟨hit', _⟩ := st'
    have ex : x0 = u := by
      have : its.toArray[i]? = some x0 := hx0
      rw [List.getElem?_toArray] at this
      exact Option.some.inj (this.symm.trans hu)
    subst ex
    refine ⟨_, rfl, wpAny_letOwnedTupleGo_enum (s := { s with heap := h', toks := tk + 1 }) ho fun h'' he' sb => ?_⟩
    have hT2 : h''.get? s.heap.objs.size = some { cls := .type "tuple", data := .seq #[.int i tk, x0] } := (sb.2 _ (Nat.ne_of_gt hel)).trans hT'
    have new : ObjOk X.prog X.w (upd H s.heap.objs.size (.tup [.int (i : Nat), x])) h'' s.heap.objs.size (.tup [.int (i : Nat), x]) :=
      ⟨by show 2 ≤ sizeLine; decide, [.int i tk, x0], .cons ⟨_, rfl⟩ (.cons ru .nil), ⟨_, hT2, rfl, _, rfl⟩⟩
    have I1 : Inv X pins σ (upd H s.heap.objs.size (.tup [.int (i : Nat), x])) { s with heap := h'', toks := tk + 1 } :=
      I.turnedNew (ch := [e, it]) (fun b ob hb q => (sb.2 b (fun z => hb (by simp [z]))).trans (hk b ob (fun z => hb (by simp [z])) (fun z => hb (by simp [z])) q)) hf (Nat.le_refl _) new
    refine ⟨.ref s.heap.objs.size, _, I1, rfl, ⟨_, x, rfl, I.hok.fresh (Nat.le_refl _), rfl, fun ys hy => by rw [I.tuple_inj hy hq]; exact hx⟩, ⟨⟨x0, ?_⟩, hit'.at fun o q => (sb.2 it (Ne.symm hne)).trans q, hne⟩, fun b hb => ?_⟩
    · have e1 : ((i + 1 : Nat) : Int) = (i : Int) + 1 := by omega
      rw [e1]; exact he'
    · have hb' : b < s.heap.objs.size := by
        have e' : b = e ∨ b = it := by simpa using hb
        rcases e' with z | z
        · rw [z]; exact hel
        · rw [z]; exact hil
      rw [upd_ne (Nat.ne_of_lt hb')]
      exact (hf b hb).1
  done := by
    intro X hP hw hK hc i pins s σ H E I hf st hg
    subst hP hw hK
    obtain ⟨⟨old, he⟩, hit, hne⟩ := st
    obtain ⟨xs, hq, hx⟩ := hg
    obtain ⟨its, rv, p, hz⟩ := I.tuple hq
    obtain ⟨f0, f1, f2, f3, f4, f5⟩ := hf it (by simp)
    have hl := rv.length
    have hT : s.heap.IsTuple a its.toArray := p
    have hai : a ≠ it := fun z => by
      subst z
      obtain ⟨o1, k1, k2, _⟩ := hit
      obtain ⟨o2, k3, k4, _⟩ := hT
      rw [k1] at k3
      cases k3
      rw [k2] at k4
      exact absurd (Value.type.inj k4) (by decide)
    have hle : its.toArray.size ≤ i := by
      rw [List.size_toArray, ← hl]; exact hx
    exact wpAny_pyNext_enum_endD (drawsEnd (A := X.A.in1) (I.ok.hd hc) it a its.toArray i hle) he ⟨rfl, hit, hT⟩ fun h' eb => ⟨rfl, I.turned (t' := s.toks) (fun b o hb q => eb b o hb q) f0 f1 f3 f4 f5⟩
  self := fun A i s Q E st h => let ⟨⟨_, he⟩, _⟩ := st; wpAny_pyIter_enum he h
/-- enumerate(xs) of a tuple, of a list -/
def renB : List W → Mem → (MIt → Mem → Prop) → Prop := fun ws μ1 R => match ws with
  | [.tup xs] => R ⟨enumW xs, fun _ => True⟩ μ1
  | _ => False
section
variable {X : Cx} {Wx : WX} {pos : Pos}
theorem runs_enumT {K : PySem.W.Frag} {H : Hp} {a : Addr} {us : List V} {xs : List W} (s : H a = some (.tup us)) (r : RVs K H us xs) : Runs K (IteT K a) H ⟨enumW xs, fun _ => True⟩ := fun i H2 μ g m ok => by
  have s1 := sqT_of (K := K) (g.t _ _ s)
  refine ⟨fun w e => ?_, fun l => ⟨us, s1, ?_⟩⟩
  · obtain ⟨x, e1, rfl⟩ := enum_at e
    obtain ⟨v1, f1, k1⟩ := r.get e1
    refine ⟨⟨us, v1, s1, f1⟩, fun z H' yy => ?_⟩
    obtain ⟨T, p, rfl, nT, rfl, h1⟩ := yy
    have z1 := h1 us s1
    rw [f1] at z1
    cases z1
    have gg := grow_new (K := K) (o := .tup [.int i, v1]) nT
    exact ⟨Gr.new0 nT, m.new nT, .tup upd_same (.cons (.int _) (.cons ((k1.mono g).mono gg) .nil)), fun c o hc => by rw [upd_ne (ne_of_none hc nT)]; exact hc⟩
  · rw [r.length]
    simpa [enum_len] using l
theorem mi_enumT {e : Expr} {t : MA} {p tpos : Pos} {elts : List Expr} {kk : Nat} (hg : Gl X "enumerate") (hm : X.mg "enumerate" = none) (ha : PAm X Wx [e] t) (hs : starEach [e] X.env = [(false, eval e X.env)]) :
    PIm X Wx (.Tuple elts kk tpos) (.Call (.Name "enumerate" p) [e] [] pos) (iFn renB t) := by
  refine ⟨fun pins s σ H R I h => ?_⟩
  obtain ⟨ρ, μ, Rm, Em, rs, rm, h, hq, he⟩ := h
  refine Call_ (ld_blt I hg hm boot_enumerate (PyProof.Rows.callWith_type1 (thn (ha.run pos pins s σ H (fun vs H1 => ∃ ws μ1, Gr X.K μ H μ1 H1 ∧ RVs X.K H1 vs ws ∧ RM X.K H1 μ1 ∧ renB ws μ1 Rm) I ⟨ρ, μ, _, Em, rs, rm, h, fun vs H1 ws μ1 g1 r1 m1 q1 => ⟨ws, μ1, g1, r1, m1, q1⟩, he⟩) fun us s1 z => ?_) hs rfl))
  obtain ⟨vs, H1, I1, rv, ws, μ1, g1, r1, m1, q1⟩ := z
  match ws, r1, q1 with
  | [.tup xs], r1, q1 =>
    obtain ⟨v0, rfl, r0⟩ := r1.one
    cases r0 with
    | @tup a us2 _ s1' t1 =>
      obtain ⟨u, eu, ru⟩ := vals1 rv
      subst eu
      cases ru
      obtain ⟨its, rv', p', hz⟩ := I1.tuple (sqT_of s1')
      refine call_enumT (show s1.heap.IsTuple a its.toArray from p') fun h' he hit hsz hk => wpAny_pyIter_enum he ?_
      have I2 : Inv X pins σ H1 { s1 with heap := h' } := I1.kept (t' := s1.toks) hk
      refine ⟨s1.heap.objs.size + 1, [s1.heap.objs.size + 1, s1.heap.objs.size], _, _, H1, rfl, I2, turn_enumT a (s1.heap.objs.size + 1) s1.heap.objs.size, ⟨⟨.none, he⟩, hit, Nat.succ_ne_self _⟩, fun b hb => ?_, hq _ H1 _ μ1 g1 m1 (runs_enumT s1' t1) q1⟩
      have e' : b = s1.heap.objs.size + 1 ∨ b = s1.heap.objs.size := by simpa using hb
      have hle : s1.heap.objs.size ≤ b := by
        rcases e' with z | z
        · rw [z]; exact Nat.le_add_right _ _
        · rw [z]; exact Nat.le_refl _
      exact I1.fpOk hle (I1.hok.fresh hle)
end
end MP
set_option Elab.async false
set_option autoImplicit false
set_option linter.all false
set_option maxRecDepth 100000
namespace MP
open PySem PySem.Spec PyProof.Rows L2
/-! ### dicts by flat tuples: d[t] = v, t in d, len(d) -/
def sDt : W → W → W → Mem → (Mem → Prop) → Prop
  | .ref a, y, v, μ, Q => ∃ kvs k, μ a = some (.dt kvs) ∧ y = .tup (k.map kW) ∧ kvs.length < sizeLine ∧ Q (updM μ a (.dt (putM kvs k v)))
  | _, _, _, _, _ => False
def oInT : O2
  | y, .ref a, μ, Q => ∃ kvs k, (μ a = some (.dt kvs) ∨ ∃ o gs, μ a = some (.rdt o gs kvs)) ∧ y = .tup (k.map kW) ∧ Q (.bl (valM kvs k).isSome) μ
  | _, _, _, _ => False
def oLenT : OC
  | [.ref a], μ, Q => ∃ kvs, μ a = some (.dt kvs) ∧ Q (.int kvs.length) μ
  | _, _, _ => False
def oMulT : O2
  | .tup xs, .int k, μ, Q => xs ≠ [] ∧ k ≤ 1000 ∧ -1000 ≤ k ∧ xs.length ≤ 1000 ∧ Q (.tup (List.replicate k.toNat xs).flatten) μ
  | _, _, _, _ => False
section
variable {X : Cx}
theorem rk_isSome {κ : Type} [DecidableEq κ] {K : PySem.W.Frag} {H : Hp} {gs : List (κ × V)} {kvs : List (κ × W)} (t : RK K H gs kvs) (k : κ) : (valV gs k).isSome = (valM kvs k).isSome := by
  cases hv : valM kvs k with
  | none => rw [rk_none t hv]; rfl
  | some y =>
    obtain ⟨z, e1, e2⟩ := rk_some t hv
    rw [e1]; rfl
theorem s_dt (hu : X.A.units + 1 < cLine) : PSet X (liftSet X.K sDt) := by
  intro pins s σ H o i v ov iv u Q I ro ri rv h
  obtain ⟨wo, wi, wv, μ, Qm, r0, r1, r2, m, h, hq⟩ := h
  unfold sDt at h
  split at h
  · cases r0
    obtain ⟨kvs, k, e, rfl, l, h⟩ := h
    obtain ⟨gs, q, t⟩ := m _ _ e
    cases r1 with
    | tup s1 t1 =>
      have ek := of_kWs t1
      subst ek
      refine set_dict hu pins s σ H _ _ v ov iv u Q I ro ri rv ⟨_, _, rfl, DPut.t q s1 (by rw [t.length]; exact l), ?_⟩
      have g := grow_mut (K := X.K) (o := .dT (putK gs k v)) q trivial
      exact hq _ _ (Gr.mut q trivial e) (m.put (o := .dt (putM kvs k _)) g ⟨_, upd_same, (rk_putM r2 t).mono g⟩) h
  · exact h.elim
theorem o_inT (hu : X.A.units + 1 < cLine) : OpR X (compareOp .In) (lift2 X.K oInT) := by
  intro pins s σ H x y v u Q I rx ry h
  obtain ⟨wx, wy, μ, Qm, r1, r2, m, h, hq⟩ := h
  unfold oInT at h
  split at h
  · cases r2
    obtain ⟨kvs, k, e, rfl, h⟩ := h
    cases (show u = Value.ref _ from ry)
    cases r1 with
    | tup s1 t1 =>
      have ek := of_kWs t1
      subst ek
      rcases e with e | ⟨o, gs, e⟩
      · obtain ⟨gs, q, t⟩ := m _ _ e
        refine d_in hu I (DGet.t q s1) rx fun s' I' => ⟨.bl _, H, I', rfl, ?_⟩
        rw [rk_isSome t]
        exact hq _ H _ μ Gr.refl (.bl _) m h
      · obtain ⟨q, t⟩ := m _ _ e
        refine d_in hu I (o := valV gs k) (.inr ⟨gs, k, _, .inr ⟨o, q⟩, rfl, s1, rfl⟩) rx fun s' I' => ⟨.bl _, H, I', rfl, ?_⟩
        rw [rk_isSome t]
        exact hq _ H _ μ Gr.refl (.bl _) m h
  · exact h.elim
theorem c_lenT : CallR X (.builtin "len") (liftC X.K oLenT) := by
  intro pins s σ H vs us Q I rx h
  obtain ⟨xs, μ, Qm, r, m, h, hq⟩ := h
  unfold oLenT at h
  split at h
  · obtain ⟨v0, rfl, r0⟩ := r.one
    cases r0
    obtain ⟨kvs, e, h⟩ := h
    obtain ⟨gs, q, t⟩ := m _ _ e
    refine call_len_dT pins s σ H _ us Q I rx ⟨_, gs, rfl, q, ?_⟩
    rw [t.length]
    exact hq _ H _ μ Gr.refl (.int _) m h
  · exact h.elim
theorem tuple_mul1 (l : Addr) (items : Array Value) (n : Nat) (dd : Option Addr) (sl : Array (Option Value)) (u : Tok) :
    Meets (Builtin.«tuple.__mul__» ⟨[.ref l, .int 1 u], []⟩) (fun _ R s => s.heap.get? l = some { cls := .type "tuple", dict := dd, data := .seq items n, slots := sl } ∧
      R (.ok (.ret (Value.ref l))) s) :=
  .of_wp fun prog w A R s h => by
    obtain ⟨hp, g, d, tk, os⟩ := s
    obtain ⟨hl, h⟩ := h
    have f1 := AutoSeq1.idx_int
    wp_walk using wpAny_loadPart' hl
    repeat (first
      | (refine wpAny_ite_true (by simp) ?_; wp_walk using wpAny_loadPart' hl)
      | (refine wpAny_ite_false (by simp) ?_; wp_walk using wpAny_loadPart' hl))
    exact ⟨_, rfl, h⟩
theorem tuple_mul0 (l : Addr) (items : Array Value) (n : Nat) (dd : Option Addr) (sl : Array (Option Value)) (x : Int) (u : Tok) (c0 : (decide (x < -(2 ^ 63)) || decide (x ≥ 2 ^ 63)) = false) (c1 : (items.isEmpty || x == 1) = false) (c2 : (decide (x ≤ 0) || items.isEmpty) = true) :
    Meets (Builtin.«tuple.__mul__» ⟨[.ref l, .int x u], []⟩) (fun _ R s => s.heap.get? l = some { cls := .type "tuple", dict := dd, data := .seq items n, slots := sl } ∧
      R (.ok (.ret (Value.ref s.heap.objs.size))) { s with heap := s.heap.push { cls := Value.type "tuple", data := Data.seq #[] }, toks := s.toks }) :=
  .of_wp fun prog w A R s h => by
    obtain ⟨hp, g, d, tk, os⟩ := s
    obtain ⟨hl, h⟩ := h
    have f1 := AutoSeq1.idx_int
    wp_walk using wpAny_loadPart' hl
    repeat (first
      | (refine wpAny_ite_false (decide_eq_false (by rw [c0]; exact Bool.false_ne_true)) ?_; wp_walk using wpAny_loadPart' hl)
      | (refine wpAny_ite_false (decide_eq_false (by rw [c1]; exact Bool.false_ne_true)) ?_; wp_walk using wpAny_loadPart' hl)
      | (refine wpAny_ite_true (decide_eq_true c2) ?_; wp_walk using wpAny_loadPart' hl)
      | (refine wpAny_ite_true c2 ?_; wp_walk using wpAny_loadPart' hl))
    exact ⟨_, rfl, h⟩
theorem RVs.rep {K : PySem.W.Frag} {H : Hp} {vs : List V} {ws : List W} (r : RVs K H vs ws) : ∀ n : Nat, RVs K H (List.replicate n vs).flatten (List.replicate n ws).flatten
  | 0 => .nil
  | n + 1 => by
    rw [List.replicate_succ, List.replicate_succ, List.flatten_cons, List.flatten_cons]
    exact r.append (r.rep n)
theorem o_mulT : OpR X (binaryOp .Mult) (lift2 X.K oMulT) := by
  intro pins s σ H x y v u Q I rx ry h
  obtain ⟨wx, wy, μ, Qm, r1, r2, m, h, hq⟩ := h
  unfold oMulT at h
  split at h
  · rename_i xs k
    cases r2
    obtain ⟨hne, l1, l2, l3, h⟩ := h
    cases r1 with
    | @tup b vs _ s1 t1 =>
      by_cases hk : 2 ≤ k
      · refine op_repT pins s σ H _ _ v u Q I rx ry ⟨b, k, vs, rfl, rfl, sqT_of s1, fun e => hne ?_, hk, l1, by rw [t1.length]; exact l3, fun p hp => ?_⟩
        · subst e; cases t1; rfl
        · exact hq _ _ _ μ (Gr.new0 hp) (.tup upd_same ((t1.rep k.toNat).mono (grow_new hp))) (m.new hp) h
      · cases rx
        obtain ⟨t, rfl⟩ := ry
        obtain ⟨its, r, ⟨⟨cls, dd, data, sl⟩, ho, hc, n, hd⟩, hs⟩ := I.tuple (sqT_of s1)
        simp only at hc hd
        subst hc hd
        have hle : its.length = vs.length := r.length.symm
        have hn : its ≠ [] := fun e => hne (by
          rw [e] at hle
          have : vs = [] := List.eq_nil_of_length_eq_zero hle.symm
          subst this; cases t1; rfl)
        have hi : its.toArray.isEmpty = false := by
          cases its with
          | nil => exact absurd rfl hn
          | cons a b => rfl
        by_cases k1 : k = 1
        · subst k1
          refine wpAny_binaryOp_repeat_ref (T := "tuple") (U := "int") (by decide) ⟨_, ho, rfl⟩ (fun s' => typeIs_int s' 1 t) noFill_tuple_mul F.fills_int_mul F.slot_int_rmul repeat_tuple F.slot_int_index.lookup
            (call_meets F.slot_int_rmul (typeIs_int s 1 t) F.entry_int_rmul (F.args_int_rmul_2 _ _) (int_rmul_tuple 1 t b its.toArray n dd sl)
              ⟨ho, rfl, ⟨_, ho, rfl⟩, call_meets F.slot_tuple_mul ⟨_, ho, rfl⟩ F.entry_tuple_mul (F.args_tuple_mul_2 _ _) (tuple_mul1 b its.toArray n dd sl t) ⟨ho, ?_⟩⟩)
          refine ⟨.ref b, H, I.tok _, rfl, ?_⟩
          refine hq _ H _ μ Gr.refl (.tup s1 ?_) m h
          rw [show (1 : Int).toNat = 1 from rfl, List.replicate_succ, List.replicate_zero, List.flatten_cons, List.flatten_nil, List.append_nil]
          exact t1
        · have c0 : (decide (k < -(2 ^ 63)) || decide (k ≥ 2 ^ 63)) = false := by
            rw [decide_eq_false (by omega), decide_eq_false (by omega)] <;> rfl
          have c1 : (its.toArray.isEmpty || k == 1) = false := by
            rw [hi, Bool.false_or]
            exact beq_eq_false_iff_ne.mpr k1
          have c2 : (decide (k ≤ 0) || its.toArray.isEmpty) = true := by
            rw [decide_eq_true (by omega), Bool.true_or]
          refine wpAny_binaryOp_repeat_ref (T := "tuple") (U := "int") (by decide) ⟨_, ho, rfl⟩ (fun s' => typeIs_int s' k t) noFill_tuple_mul F.fills_int_mul F.slot_int_rmul repeat_tuple F.slot_int_index.lookup
            (call_meets F.slot_int_rmul (typeIs_int s k t) F.entry_int_rmul (F.args_int_rmul_2 _ _) (int_rmul_tuple k t b its.toArray n dd sl)
              ⟨ho, rfl, ⟨_, ho, rfl⟩, call_meets F.slot_tuple_mul ⟨_, ho, rfl⟩ F.entry_tuple_mul (F.args_tuple_mul_2 _ _) (tuple_mul0 b its.toArray n dd sl k t c0 c1 c2) ⟨ho, ?_⟩⟩)
          have hp := I.hok.fresh (Nat.le_refl s.heap.objs.size)
          refine ⟨.ref s.heap.objs.size, _, I.laid (t' := s.toks) (o := .tup []) (fun b ob q => Heap.get?_push_of_some _ q) (Nat.le_refl _) ⟨Nat.zero_le _, [], .nil, IsTup.new _ _⟩, rfl, ?_⟩
          rw [show k.toNat = 0 by omega] at h
          exact hq _ _ _ μ (Gr.new0 hp) (.tup upd_same .nil) (m.new hp) h
  · exact h.elim
/-- sorted(xs): ints of a list, or pairs of ints -/
def oSortL : OC
  | [.ref a], μ, Q => (∃ ns : List Int, μ a = some (.lst (ns.map W.int)) ∧ ∀ ys : List Int, ys.Perm ns → ys.Pairwise (· ≤ ·) → ∀ p, μ p = none → Q (.ref p) (updM μ p (.lst (ys.map W.int)))) ∨
    ∃ ps : List (Int × Int), μ a = some (.lst (ps.map pairI)) ∧ ∀ ys : List (Int × Int), ys.Perm ps → LexS ys → ∀ p, μ p = none → Q (.ref p) (updM μ p (.lst (ys.map pairI)))
  | _, _, _ => False
/-- the pair that a value is -/
def pairV (H : Hp) : V → Int × Int
  | .ref t => match H t with
    | some (.tup [.int a, .int b]) => (a, b)
    | _ => (0, 0)
  | _ => (0, 0)
theorem pairsV_at {K : PySem.W.Frag} {H : Hp} : ∀ {vs : List V} {ps : List (Int × Int)}, RVs K H vs (ps.map pairI) → vs.map (pairV H) = ps ∧ ∀ x ∈ vs, ∃ t, x = V.ref t ∧ H t = some (.tup [.int (pairV H x).1, .int (pairV H x).2])
  | _, [], .nil => ⟨rfl, fun x hx => by cases hx⟩
  | _, p :: r, .cons h t => by
    obtain ⟨h1, h2⟩ := pairsV_at t
    cases h with
    | @tup a us _ s q =>
      obtain ⟨v0, v1, rfl, q0, q1⟩ := q.two
      cases q0; cases q1
      have e : pairV H (.ref a) = p := by
        simp only [pairV, s]
      refine ⟨by rw [List.map_cons, h1, e], fun x hx => ?_⟩
      rcases List.mem_cons.mp hx with rfl | hx
      · rw [e]; exact ⟨a, rfl, s⟩
      · exact h2 x hx
theorem rvs_pairV {K : PySem.W.Frag} {H H' : Hp} : ∀ {vs : List V}, (∀ x ∈ vs, ∃ t, x = V.ref t ∧ H' t = some (.tup [.int (pairV H x).1, .int (pairV H x).2])) → RVs K H' vs ((vs.map (pairV H)).map pairI)
  | [], _ => .nil
  | x :: r, h => by
    obtain ⟨t, e, q⟩ := h x List.mem_cons_self
    refine .cons ?_ (rvs_pairV fun y hy => h y (List.mem_cons_of_mem _ hy))
    rw [e] at q ⊢
    exact .tup q (.cons (.int _) (.cons (.int _) .nil))
theorem c_sortL : CallR X (.builtin "sorted") (liftC X.K oSortL) := by
  intro pins s σ H vs us Q I rx h
  obtain ⟨xs, μ, Qm, r, m, h, hq⟩ := h
  unfold oSortL at h
  split at h
  · obtain ⟨v0, rfl, r0⟩ := r.one
    rcases h with h | ⟨ps, e, h⟩
    · exact c_sortI pins s σ H _ us Q I rx ⟨_, μ, Qm, .cons r0 .nil, m, h, hq⟩
    · cases r0
      obtain ⟨ws, q, t⟩ := seq_of m (.inl e)
      obtain ⟨h1, h2⟩ := pairsV_at t
      refine cr_sortedPO pins s σ H _ us Q I rx ⟨_, ws, pairV H, rfl, q, h2, fun ys p g1 g2 hp => ?_⟩
      have gw := grow_new (K := X.K) (o := .lst ys) hp
      have hy : ∀ x ∈ ys, ∃ t, x = V.ref t ∧ (upd H p (.lst ys)) t = some (.tup [.int (pairV H x).1, .int (pairV H x).2]) := fun x hx => by
        obtain ⟨t, e1, e2⟩ := h2 x (g2.perm.mem_iff.mp hx)
        exact ⟨t, e1, gw.t _ _ e2⟩
      refine hq _ _ _ _ (Gr.new hp) (.ref p) (m.put (o := .lst ((ys.map (pairV H)).map pairI)) gw ⟨_, upd_same, rvs_pairV hy⟩) (h (ys.map (pairV H)) ?_ ?_ p (m.fresh hp))
      · rw [← h1]; exact g2.perm.map _
      · exact List.pairwise_map.mpr g1
  · exact h.elim
end
end MP
set_option Elab.async false
set_option autoImplicit false
set_option linter.all false
set_option maxRecDepth 100000
namespace MP
open PySem PySem.Spec PyProof.Rows L2
/-! ### a tuple of anything == (); d[k] of a dict by flat keys -/
def oEqE : O2
  | .tup xs, .tup [], μ, Q => Q (.bl xs.isEmpty) μ
  | _, _, _, _ => False
def oIxK : O2
  | .ref a, y, μ, Q => ∃ kvs k w, μ a = some (.dk kvs) ∧ y = kW k ∧ valM kvs k = some w ∧ Q w μ
  | _, _, _, _ => False
section
variable {X : Cx}
theorem o_eqE (hu : X.A.units < cLine) : OpR X (compareOp .Eq) (lift2 X.K oEqE) := by
  intro pins s σ H x y v u Q I rx ry h
  obtain ⟨wx, wy, μ, Qm, r1, r2, m, h, hq⟩ := h
  unfold oEqE at h
  split at h
  · rename_i ws
    cases r1 with
    | @tup a vs _ s1 t1 =>
      cases r2 with
      | @tup b us _ s2 t2 =>
        cases t2
        cases (show v = Value.ref _ from rx)
        cases (show u = Value.ref _ from ry)
        obtain ⟨its, rv, pl, hz⟩ := I.tuple (sqT_of s1)
        obtain ⟨its2, rv2, pl2, _⟩ := I.tuple (sqT_of s2)
        cases rv2
        have e : (((List.range (min its.toArray.size ([] : List Value).toArray.size)).all fun _ => true) && its.toArray.size == ([] : List Value).toArray.size) = ws.isEmpty := by
          have h1 := rv.length
          have h2 := t1.length
          rw [Bool.eq_iff_iff]
          simp only [List.size_toArray, List.length_nil, Nat.min_zero, List.range_zero, List.all_nil, Bool.true_and, beq_iff_eq]
          rw [← h1, h2, List.isEmpty_iff, List.length_eq_zero_iff]
        refine PySem.SeqAt.RcAt.tuples (e := fun _ => true) (show s.heap.IsTuple _ its.toArray from pl) (show s.heap.IsTuple _ _ from pl2) hu (fun j h1 h2 => absurd h2 (by simp)) _ _ _ _ ?_
        rw [e]
        exact ⟨.bl _, H, I, rfl, hq _ H _ μ Gr.refl (.bl _) m h⟩
  · exact h.elim
end
section
variable {P : Program} {w : World} {K : PySem.W.Frag} {mg : Str → Option Value} {base : Heap} {k : Nat}
theorem ixK_ok : ∀ X, Bs P w K mg base k X → ∀ (Wx : WX) (a b : Expr) (ma mb : ME) (pos : Pos), PEm X Wx a ma → PEm X Wx b mb → notSlice b = true → PEm X Wx (.Subscript a b pos) (eOp oIxK ma mb) := by
  intro X B Wx a b ma mb pos ha hb hn
  refine PE.imp (pe_dget (by have := B.room.units; omega) ha hb (ix_not hn)) fun σ H Q h => ?_
  obtain ⟨ρ, μ, Qm, Em, rs, rm, h, hq, he⟩ := h
  refine ⟨ρ, μ, _, Em, rs, rm, h, fun v H1 x μ1 g1 r1 m1 q1 => ?_, he⟩
  refine ⟨ρ, μ1, _, Em, rs.mono g1.g, m1, q1, fun u H2 y μ2 g2 r2 m2 q2 => ?_, he.mono g1⟩
  replace q2 : oIxK x y μ2 Qm := q2
  unfold oIxK at q2
  split at q2
  · obtain ⟨kvs, kk, ww, e, rfl, hv, q2⟩ := q2
    cases r1
    have ek := of_kW r2
    subst ek
    obtain ⟨gs, q, t⟩ := m2 _ _ e
    obtain ⟨z, e1, e2⟩ := rk_some t hv
    exact ⟨_, z, rfl, e1 ▸ DGet.k q, hq _ H2 _ μ2 (g1.trans g2) e2 m2 q2⟩
  · exact q2.elim
end
end MP
set_option Elab.async false
set_option autoImplicit false
set_option linter.all false
set_option maxRecDepth 100000
namespace MP
open PySem PySem.Spec PyProof.Rows L2

/-! ### the tables that all programs share -/
def oLt := oCmpI fun i j => decide (i < j)
theorem o_lt {X : Cx} : OpR X (compareOp .Lt) (lift2 X.K oLt) := o_cmpI op_lt
def oIAdd : O2
  | .int i, .int j, μ, Q => Q (.int (i + j)) μ
  | _, _, _, _ => False
def oISub : O2
  | .int i, .int j, μ, Q => Q (.int (i - j)) μ
  | _, _, _, _ => False
theorem o_iadd {X : Cx} : PIp X .Add (lift2 X.K oIAdd) := by
  intro pins s σ H x y v u Q I rx ry h
  obtain ⟨wx, wy, μ, Qm, r1, r2, m, h, hq⟩ := h
  unfold oIAdd at h
  split at h
  · cases r1; cases r2
    exact ip_add pins s σ H _ _ v u Q I rx ry ⟨_, _, rfl, rfl, hq _ H _ μ Gr.refl (.int _) m h⟩
  · exact h.elim
theorem o_isub {X : Cx} : PIp X .Sub (lift2 X.K oISub) := by
  intro pins s σ H x y v u Q I rx ry h
  obtain ⟨wx, wy, μ, Qm, r1, r2, m, h, hq⟩ := h
  unfold oISub at h
  split at h
  · cases r1; cases r2
    exact ip_sub pins s σ H _ _ v u Q I rx ry ⟨_, _, rfl, rfl, hq _ H _ μ Gr.refl (.int _) m h⟩
  · exact h.elim
/-- xs[i] = v of a list -/
def sLst : W → W → W → Mem → (Mem → Prop) → Prop
  | .ref a, .int i, v, μ, Q => ∃ xs j, μ a = some (.lst xs) ∧ ixN xs.length i = some j ∧ Q (updM μ a (.lst (xs.set j v)))
  | _, _, _, _, _ => False
theorem s_lst {X : Cx} : PSet X (liftSet X.K sLst) := by
  intro pins s σ H o i v ov iv u Q I ro ri rv h
  obtain ⟨wo, wi, wv, μ, Qm, r0, r1, r2, m, h, hq⟩ := h
  unfold sLst at h
  split at h
  · cases r0; cases r1
    obtain ⟨xs, j, e, hj, h⟩ := h
    obtain ⟨vs, q, t⟩ := m _ _ e
    refine set_list pins s σ H _ _ v ov iv u Q I ro ri rv ⟨_, vs, _, j, rfl, rfl, q, by rw [t.length]; exact hj, ?_⟩
    have g := grow_mut (K := X.K) (o := .lst (vs.set j v)) q trivial
    exact hq _ _ (Gr.mut q trivial e) (m.put (o := .lst (xs.set j _)) g ⟨_, upd_same, (RVs.set r2 j t).mono g⟩) h
  · exact h.elim
/-! ### methods of lists -/
def mAppend : W → List W → Mem → MQ → Prop
  | .ref a, [y], μ, Q => ∃ xs, μ a = some (.lst xs) ∧ xs.length < sizeLine ∧ Q .non (updM μ a (.lst (xs ++ [y])))
  | _, _, _, _ => False
def mExtend : W → List W → Mem → MQ → Prop
  | .ref a, [.ref b], μ, Q => ∃ xs ys, μ a = some (.lst xs) ∧ μ b = some (.lst ys) ∧ xs.length + ys.length ≤ sizeLine ∧ Q .non (updM μ a (.lst (xs ++ ys)))
  | _, _, _, _ => False
def mPop : W → List W → Mem → MQ → Prop
  | .ref a, [], μ, Q => ∃ xs y, μ a = some (.lst xs) ∧ xs[xs.length - 1]? = some y ∧ Q y (updM μ a (.lst xs.dropLast))
  | .ref a, [.int i], μ, Q => ∃ xs k y, μ a = some (.lst xs) ∧ -(2 ^ 63) ≤ i ∧ i < 2 ^ 63 ∧ seqIndex? i xs.length = some k ∧ xs[k]? = some y ∧ Q y (updM μ a (.lst (xs.eraseIdx k)))
  | _, _, _, _ => False
section
variable {X : Cx}
theorem m_append : MtR X "list.append" (liftM X.K mAppend) := by
  intro pins s σ H x vs v us Q I rx rv h
  obtain ⟨wx, xs, μ, Qm, r0, r1, m, h, hq⟩ := h
  unfold mAppend at h
  split at h
  · cases r0
    obtain ⟨v0, rfl, r2⟩ := r1.one
    obtain ⟨ys, e, l, h⟩ := h
    obtain ⟨zs, q, t⟩ := m _ _ e
    have g := grow_mut (K := X.K) (o := .lst (zs ++ [v0])) q trivial
    exact mt_append pins s σ H _ _ v us Q I rx rv ⟨_, zs, v0, rfl, rfl, q, by rw [t.length]; exact l, hq _ _ _ _ (Gr.mut q trivial e) .non (m.put (o := .lst (ys ++ [_])) g ⟨_, upd_same, (t.append (.cons r2 .nil)).mono g⟩) h⟩
  · exact h.elim
theorem m_extend : MtR X "list.extend" (liftM X.K mExtend) := by
  intro pins s σ H x vs v us Q I rx rv h
  obtain ⟨wx, xs, μ, Qm, r0, r1, m, h, hq⟩ := h
  unfold mExtend at h
  split at h
  · cases r0
    obtain ⟨v0, rfl, r2⟩ := r1.one
    cases r2
    obtain ⟨xs, ys, e, e2, l, h⟩ := h
    obtain ⟨zs, q, t⟩ := m _ _ e
    obtain ⟨us, q2, t2⟩ := m _ _ e2
    have g := grow_mut (K := X.K) (o := .lst (zs ++ us)) q trivial
    exact mt_extend pins s σ H _ _ v _ Q I rx rv ⟨_, _, zs, us, rfl, rfl, q, q2, by rw [t.length, t2.length]; exact l, hq _ _ _ _ (Gr.mut q trivial e) .non (m.put (o := .lst (xs ++ ys)) g ⟨_, upd_same, (t.append t2).mono g⟩) h⟩
  · exact h.elim
theorem m_pop : MtR X "list.pop" (liftM X.K mPop) := by
  intro pins s σ H x vs v us Q I rx rv h
  obtain ⟨wx, xs, μ, Qm, r0, r1, m, h, hq⟩ := h
  unfold mPop at h
  split at h
  · cases r0; cases r1
    obtain ⟨xs, y, e, e2, h⟩ := h
    obtain ⟨zs, q, t⟩ := m _ _ e
    obtain ⟨v0, e3, r3⟩ := t.get e2
    have g := grow_mut (K := X.K) (o := .lst zs.dropLast) q trivial
    exact mt_pop pins s σ H _ _ v us Q I rx rv ⟨_, zs, v0, rfl, rfl, q, by rw [t.length]; exact e3, hq _ _ _ _ (Gr.mut q trivial e) (r3.mono g) (m.put (o := .lst xs.dropLast) g ⟨_, upd_same, t.dropLast.mono g⟩) h⟩
  · cases r0
    obtain ⟨v1, rfl, r2⟩ := r1.one
    cases r2
    obtain ⟨xs, k, y, e, l1, l2, e1, e2, h⟩ := h
    obtain ⟨zs, q, t⟩ := m _ _ e
    obtain ⟨v0, e3, r3⟩ := t.get e2
    have g := grow_mut (K := X.K) (o := .lst (zs.eraseIdx k)) q trivial
    exact mt_popAt pins s σ H _ _ v us Q I rx rv ⟨_, zs, _, k, v0, rfl, rfl, q, l1, l2, by rw [t.length]; exact e1, e3, hq _ _ _ _ (Gr.mut q trivial e) (r3.mono g) (m.put (o := .lst (xs.eraseIdx k)) g ⟨_, upd_same, (t.eraseIdx k).mono g⟩) h⟩
  · exact h.elim
end

/-! ### the tables -/
def stdBops : List (Operator × O2) := [(.Add, oAdd), (.Sub, oSub), (.Mult, oMul), (.FloorDiv, oFdiv), (.Mod, oMod), (.Pow, oPow), (.Mult, oMulT)]
def stdAugs : List (Operator × O2) := [(.Add, oIAdd), (.Sub, oISub)]
def stdCops : List (CmpOp × O2) := [(.Eq, oEq), (.NotEq, oNe), (.Lt, oLt), (.LtE, oLe), (.Gt, oGt), (.GtE, oGe), (.In, oIn false), (.NotIn, oIn true), (.Is, oIs false), (.IsNot, oIs true), (.Lt, oLtG), (.In, oInT), (.Eq, oEqE)]
def stdIxs : List O2 := [oIx, oIxK]
def stdSets : List (W → W → W → Mem → (Mem → Prop) → Prop) := [sLst, sDk, sDt]
def stdBcs : List (Str × OC) := [("len", oLen), ("abs", oAbs), ("int", oIntOf), ("list", oListOf), ("tuple", oTupleOf), ("max", oL fMax), ("max", oMax2), ("min", oL fMin), ("min", oMin2), ("sum", oL fSum), ("all", oL fAll), ("any", oL fAny), ("dict", oDictOf), ("dict", oDictOfT), ("sorted", oSortL), ("sorted", oSortD), ("sorted", oSortP), ("repr", oRepr), ("len", oLenT)]
def stdLfs : List (Str × (List W → MQ → Mem → Prop)) := [("sum", fSum), ("all", fAll), ("any", fAny), ("max", fMax), ("min", fMin), ("tuple", fTuple), ("len", fLen)]
def stdBms : List BM := [⟨"list", "append", "list.append", mAppend⟩, ⟨"list", "extend", "list.extend", mExtend⟩, ⟨"list", "pop", "list.pop", mPop⟩, ⟨"dict", "get", "dict.get", mGet⟩, ⟨"dict", "setdefault", "dict.setdefault", mSetd⟩]
def rg1 : List W → Mem → (MIt → Mem → Prop) → Prop := fun xs μ1 R => ∃ j : Int, xs = [.int j] ∧ -(2 ^ 62) ≤ j ∧ j < 2 ^ 62 ∧ R ⟨rangeW 0 j.toNat, fun _ => True⟩ μ1
def rg2 : List W → Mem → (MIt → Mem → Prop) → Prop := fun xs μ1 R => ∃ i j : Int, xs = [.int i, .int j] ∧ (-(2 ^ 62) ≤ i ∧ i < 2 ^ 62 ∧ -(2 ^ 62) ≤ j ∧ j < 2 ^ 62) ∧ R ⟨rangeW i (j - i).toNat, fun _ => True⟩ μ1
/-- range(n), range(a, b), told apart by the arguments -/
def rgA : List W → Mem → (MIt → Mem → Prop) → Prop
  | [a], μ, R => rg1 [a] μ R
  | [a, b], μ, R => rg2 [a, b] μ R
  | _, _, _ => False
def rzp : List W → Mem → (MIt → Mem → Prop) → Prop := fun ws μ1 R => match ws with
  | [.tup xs, .tup ys] => R ⟨(xs.zip ys).map pairW, fun _ => True⟩ μ1
  | [.ref a, .ref b] => ∃ xs ys, μ1 a = some (.lst xs) ∧ μ1 b = some (.lst ys) ∧ R ⟨(xs.zip ys).map pairW, fun μ => μ a = some (.lst xs) ∧ μ b = some (.lst ys)⟩ μ1
  | _ => False
def ren : List W → Mem → (MIt → Mem → Prop) → Prop := fun ws μ1 R => match ws with
  | [.ref a] => ∃ xs, (μ1 a = some (.lst xs) ∧ R ⟨enumW xs, fun μ => μ a = some (.lst xs)⟩ μ1) ∨ (μ1 a = some (.rol xs) ∧ R ⟨enumW xs, fun μ => μ a = some (.rol xs)⟩ μ1)
  | _ => False
def stdNames : List Str := ["len", "abs", "int", "list", "tuple", "max", "min", "sum", "all", "any", "range", "isinstance", "bool", "str", "dict", "set", "zip", "enumerate", "sorted", "repr"]
def stdTyns : List Str := ["int", "list", "tuple", "bool", "str", "dict"]
section
variable {P : Program} {w : World} {K : PySem.W.Frag} {mg : Str → Option Value} {base : Heap} {k : Nat} {X : Cx}
theorem Bs.u64 (B : Bs P w K mg base k X) : X.A.units + 64 < cLine := B.room.units
theorem Bs.u65 (B : Bs P w K mg base k X) : X.A.units + 65 < cLine := by have := B.room.un; omega
theorem mem_at {α : Type} {l : List α} {j : Nat} {p : α} (h : l[j]? = some p) : p ∈ l := List.mem_of_getElem? h
theorem std_bops (B : Bs P w K mg base k X) : ∀ p ∈ stdBops, OpR X (binaryOp p.1) (lift2 X.K p.2) := by
  intro p hp
  simp only [stdBops, List.mem_cons, List.not_mem_nil, or_false] at hp
  rcases hp with rfl | rfl | rfl | rfl | rfl | rfl | rfl
  · exact o_add
  · exact o_sub
  · exact o_mul
  · exact o_fdiv
  · exact o_mod
  · exact o_pow
  · exact o_mulT
theorem std_augs : ∀ p ∈ stdAugs, PIp X p.1 (lift2 X.K p.2) := by
  intro p hp
  simp only [stdAugs, List.mem_cons, List.not_mem_nil, or_false] at hp
  rcases hp with rfl | rfl
  · exact o_iadd
  · exact o_isub
theorem std_cops (B : Bs P w K mg base k X) : ∀ p ∈ stdCops, OpR X (compareOp p.1) (lift2 X.K p.2) := by
  intro p hp
  simp only [stdCops, List.mem_cons, List.not_mem_nil, or_false] at hp
  rcases hp with rfl | rfl | rfl | rfl | rfl | rfl | rfl | rfl | rfl | rfl | rfl | rfl | rfl
  · exact o_eq B.u64
  · exact o_ne B.u64
  · exact o_lt
  · exact o_le
  · exact o_gt
  · exact o_ge
  · exact o_in B.u65
  · exact o_notin B.u65
  · exact o_is
  · exact o_isnot
  · exact o_ltG (by have := B.u64; omega)
  · exact o_inT (by have := B.u64; omega)
  · exact o_eqE (by have := B.u64; omega)
theorem std_ixs : ∀ r ∈ stdIxs, IxOk P w K mg base k r := by
  intro r hr
  simp only [stdIxs, List.mem_cons, List.not_mem_nil, or_false] at hr
  rcases hr with rfl | rfl
  · exact fun X B Wx a b ma mb pos ha hb hn => m_ix o_ix ha hb (ix_not hn)
  · exact ixK_ok
theorem std_sets (B : Bs P w K mg base k X) : ∀ r ∈ stdSets, PSet X (liftSet X.K r) := by
  intro r hr
  simp only [stdSets, List.mem_cons, List.not_mem_nil, or_false] at hr
  rcases hr with rfl | rfl | rfl
  · exact s_lst
  · exact s_dk (by have := B.u64; omega)
  · exact s_dt (by have := B.u64; omega)
variable (hm : ∀ x ∈ stdNames, mg x = none)
theorem std_bcs (hm : ∀ x ∈ stdNames, mg x = none) : ∀ p ∈ stdBcs, BcOk P w K mg base k p := by
  intro p hp
  simp only [stdBcs, List.mem_cons, List.not_mem_nil, or_false] at hp
  rcases hp with rfl | rfl | rfl | rfl | rfl | rfl | rfl | rfl | rfl | rfl | rfl | rfl | rfl | rfl | rfl | rfl | rfl | rfl | rfl
  · exact ⟨hm _ (by decide), fun X B => .inl ⟨_, c_len, boot_len⟩⟩
  · exact ⟨hm _ (by decide), fun X B => .inl ⟨_, c_abs, by decide +kernel⟩⟩
  · exact ⟨hm _ (by decide), fun X B => .inr ⟨_, c_intOf, by decide +kernel⟩⟩
  · exact ⟨hm _ (by decide), fun X B => .inr ⟨_, c_listOf, by decide +kernel⟩⟩
  · exact ⟨hm _ (by decide), fun X B => .inr ⟨_, c_tupleOf, by decide +kernel⟩⟩
  · exact ⟨hm _ (by decide), fun X B => .inl ⟨_, c_max B.calm, by decide +kernel⟩⟩
  · exact ⟨hm _ (by decide), fun X B => .inl ⟨_, c_max2 B.calm, by decide +kernel⟩⟩
  · exact ⟨hm _ (by decide), fun X B => .inl ⟨_, c_min B.calm, by decide +kernel⟩⟩
  · exact ⟨hm _ (by decide), fun X B => .inl ⟨_, c_min2 B.calm, by decide +kernel⟩⟩
  · exact ⟨hm _ (by decide), fun X B => .inl ⟨_, c_sum B.calm, by decide +kernel⟩⟩
  · exact ⟨hm _ (by decide), fun X B => .inl ⟨_, c_all B.calm, by decide +kernel⟩⟩
  · exact ⟨hm _ (by decide), fun X B => .inl ⟨_, c_any B.calm, by decide +kernel⟩⟩
  · exact ⟨hm _ (by decide), fun X B => .inr ⟨_, c_dictOf B.calm, by decide +kernel⟩⟩
  · exact ⟨hm _ (by decide), fun X B => .inr ⟨_, c_dictOfT B.calm B.u64, by decide +kernel⟩⟩
  · exact ⟨hm _ (by decide), fun X B => .inl ⟨_, c_sortL, by decide +kernel⟩⟩
  · exact ⟨hm _ (by decide), fun X B => .inl ⟨_, c_sortD B.calm, by decide +kernel⟩⟩
  · exact ⟨hm _ (by decide), fun X B => .inl ⟨_, c_sortP B.calm, by decide +kernel⟩⟩
  · exact ⟨hm _ (by decide), fun X B => .inl ⟨_, c_repr, by decide +kernel⟩⟩
  · exact ⟨hm _ (by decide), fun X B => .inl ⟨_, c_lenT, boot_len⟩⟩
theorem std_lfs (hm : ∀ x ∈ stdNames, mg x = none) : ∀ p ∈ stdLfs, LF p.2 ∧ mg p.1 = none ∧ ∀ X, Bs P w K mg base k X → (∃ id, CallR X (.builtin id) (liftC X.K (oL p.2)) ∧ bootBuiltins p.1 = some (.builtin id)) ∨ (∃ id, CallR X (.type id) (liftC X.K (oL p.2)) ∧ bootBuiltins p.1 = some (.type id)) := by
  intro p hp
  simp only [stdLfs, List.mem_cons, List.not_mem_nil, or_false] at hp
  rcases hp with rfl | rfl | rfl | rfl | rfl | rfl | rfl
  · exact ⟨lf_sum, hm _ (by decide), fun X B => .inl ⟨_, c_sum B.calm, by decide +kernel⟩⟩
  · exact ⟨lf_all, hm _ (by decide), fun X B => .inl ⟨_, c_all B.calm, by decide +kernel⟩⟩
  · exact ⟨lf_any, hm _ (by decide), fun X B => .inl ⟨_, c_any B.calm, by decide +kernel⟩⟩
  · exact ⟨lf_max, hm _ (by decide), fun X B => .inl ⟨_, c_max B.calm, by decide +kernel⟩⟩
  · exact ⟨lf_min, hm _ (by decide), fun X B => .inl ⟨_, c_min B.calm, by decide +kernel⟩⟩
  · exact ⟨lf_tuple, hm _ (by decide), fun X B => .inr ⟨_, c_tupleL, by decide +kernel⟩⟩
  · exact ⟨lf_len, hm _ (by decide), fun X B => .inl ⟨_, c_lenL, boot_len⟩⟩
theorem std_bms : ∀ b ∈ stdBms, BmOk P w K mg base k b := by
  intro b hb
  simp only [stdBms, List.mem_cons, List.not_mem_nil, or_false] at hb
  rcases hb with rfl | rfl | rfl | rfl | rfl
  · exact ⟨PySem.F.plainAttrs_list, PySem.F.slot_list_append, PySem.F.type_list_append, fun X B => m_append⟩
  · exact ⟨PySem.F.plainAttrs_list, PySem.F.slot_list_extend, PySem.F.type_list_extend, fun X B => m_extend⟩
  · exact ⟨PySem.F.plainAttrs_list, PySem.F.slot_list_pop, PySem.F.type_list_pop, fun X B => m_pop⟩
  · exact ⟨PySem.F.plainAttrs_dict, PySem.F.slot_dict_get, PySem.F.type_dict_get, fun X B => m_get (by have := B.u64; omega)⟩
  · exact ⟨PySem.F.plainAttrs_dict, PySem.F.slot_dict_setdefault, PySem.F.type_dict_setdefault, fun X B => m_setd⟩
theorem PIm.imp {X : Cx} {Wx : WX} {tg e : Expr} {m m' : MI} (h : PIm X Wx tg e m) (q : ∀ ρ μ R E, m' ρ μ R E → m ρ μ R E) : PIm X Wx tg e m' := PI.imp h fun σ H R z => by
  obtain ⟨ρ, μ, Rm, Em, rs, rm, z, a, b⟩ := z
  exact ⟨ρ, μ, Rm, Em, rs, rm, q _ _ _ _ z, a, b⟩
def stdIts : List ITb := [⟨"range", false, 1, rg1⟩, ⟨"range", false, 2, rg2⟩, ⟨"zip", true, 2, rzp⟩, ⟨"enumerate", true, 1, ren⟩, ⟨"enumerate", true, 1, renB⟩]
theorem tup_tg {tg : Expr} (h : isTupE tg = true) : ∃ es kk pos, tg = .Tuple es kk pos := by
  cases tg <;> first
    | exact ⟨_, _, _, rfl⟩
    | cases h
theorem std_its (hm : ∀ x ∈ stdNames, mg x = none) : ∀ p ∈ stdIts, ItOk P w K mg base k p := by
  intro p hp
  simp only [stdIts, List.mem_cons, List.not_mem_nil, or_false] at hp
  rcases hp with rfl | rfl | rfl | rfl | rfl
  · refine ⟨hm _ (by decide), fun X B Wx tg e es t pp pos _ hl hg hn ha => ?_⟩
    cases es with
    | cons _ _ => simp at hl
    | nil => exact PIm.imp (mi_rg1 hg (by rw [B.mg]; exact hm _ (by decide)) ha (ns_head hn)) fun ρ μ R E h => h
  · refine ⟨hm _ (by decide), fun X B Wx tg e es t pp pos _ hl hg hn ha => ?_⟩
    cases es with
    | nil => simp at hl
    | cons e2 es =>
      cases es with
      | cons _ _ => simp at hl
      | nil => exact PIm.imp (mi_rg2 hg (by rw [B.mg]; exact hm _ (by decide)) ha (by rw [ns_head (ns_cons hn).1, ns_head (ns_cons (ns_cons hn).2).1]; rfl) (ns_head (ns_cons (ns_cons hn).2).1)) fun ρ μ R E h => h
  · refine ⟨hm _ (by decide), fun X B Wx tg e es t pp pos ht hl hg hn ha => ?_⟩
    obtain ⟨ts, kk, tp, rfl⟩ := tup_tg (ht rfl)
    cases es with
    | nil => simp at hl
    | cons e2 es =>
      cases es with
      | cons _ _ => simp at hl
      | nil => exact PIm.imp (mi_zip hg (by rw [B.mg]; exact hm _ (by decide)) ha (ns_head (ns_cons hn).1) (ns_any (ns_cons hn).2)) fun ρ μ R E h => h
  · refine ⟨hm _ (by decide), fun X B Wx tg e es t pp pos ht hl hg hn ha => ?_⟩
    obtain ⟨ts, kk, tp, rfl⟩ := tup_tg (ht rfl)
    cases es with
    | cons _ _ => simp at hl
    | nil => exact PIm.imp (mi_enum hg (by rw [B.mg]; exact hm _ (by decide)) ha (ns_head hn)) fun ρ μ R E h => h
  · refine ⟨hm _ (by decide), fun X B Wx tg e es t pp pos ht hl hg hn ha => ?_⟩
    obtain ⟨ts, kk, tp, rfl⟩ := tup_tg (ht rfl)
    cases es with
    | cons _ _ => simp at hl
    | nil => exact mi_enumT hg (by rw [B.mg]; exact hm _ (by decide)) ha (ns_head hn)
end
end MP
set_option Elab.async false
set_option autoImplicit false
set_option linter.all false
set_option maxRecDepth 100000
namespace MP
open PySem PySem.Spec PyProof.Rows L2

/-! ### a program of defs -/
structure DefE where
  x : Str
  qual : Str
  st : Stmt
  ps : List Str
  N : List Str
  t : XSs
/-- what the defs do, by rounds of calls -/
def Gam (L : Lib) (D : List DefE) : Nat → Nat → MSp
  | 0, _ => badM
  | n + 1, j => match D[j]? with
    | some d => runD L (Gam L D n) d.N.length d.ps.length d.t
    | none => badM
/-- a def of the program: where it stands -/
structure DefAt (K : PySem.W.Frag) (d : DefE) (f : Addr) : Prop where
  ex : ∃ fd, Fun K d.x d.qual d.st f fd ∧ Binds K fd d.ps []
structure Prg (P : Program) (K : PySem.W.Frag) (mg : Str → Option Value) (L : Lib) (D : List DefE) (adr : Nat → Addr) : Prop where
  ad : ∀ (j : Nat) (d : DefE), D[j]? = some d → DefAt K d (adr j)
  chk : ∀ d ∈ D, FnScope d.N d.ps (defScope d.st) ∧ cSs L ⟨d.N, defScope d.st, fun _ => true⟩ d.t (defBody d.st) = true
  fns : ∀ (j : Nat) (x : Str), L.fns[j]? = some (some x) → (D[j]?).isSome = true ∧ mg x = some (.ref (adr j))
  dfs : ∀ (f : Addr) (j : Nat), (f, j) ∈ L.dfs → f = adr j ∧ (D[j]?).isSome = true
  cst : ∀ p ∈ L.cst, ∃ u v, mg p.1 = some u ∧ RelV v u ∧ ∀ H, RV K H v p.2
  cls : ∀ p ∈ L.cls, mg p.1 = some (.ref p.2.1) ∧ Cls K p.2.1 ∧ Mk K p.2.1 (adr p.2.2) ∧ (D[p.2.2]?).isSome = true
  meths : ∀ (c : Nat) (m : Str) (j : Nat) (p : Str × Addr × Nat), (c, m, j) ∈ L.meths → L.cls[c]? = some p → Meth K p.2.1 m (adr j) ∧ (D[j]?).isSome = true
  attrs : ∀ (c : Nat) (f : Str) (p : Str × Addr × Nat), (c, f) ∈ L.attrs → L.cls[c]? = some p → NoAttr K p.2.1 f
  excs : ∀ x ∈ L.excs, ∃ C, mg x = some (.ref C) ∧ PySem.W.keepIn K (.ref C) = true ∧ PySem.W.subIn K (.ref C) (.type "BaseException") = some true ∧ PySem.W.typeIn K (.ref C) = some (.type "type") ∧ PySem.W.excIn K C [.type "ValueError", .type "Exception", .type "BaseException", .type "object"] "ValueError.__new__" = true
  xtab : ∀ a ∈ L.excs, ∀ b ∈ L.excs, ∃ ca cb, mg a = some ca ∧ mg b = some cb ∧ PySem.W.exmOne K ca cb = some (decide (a = b))
  nms : ∀ x ∈ stdNames, mg x = none
/-- the tables are the shared ones, or proved apart -/
structure StdL (P : Program) (w : World) (K : PySem.W.Frag) (mg : Str → Option Value) (base : Heap) (L : Lib) : Prop where
  bops : L.bops = stdBops
  augs : L.augs = stdAugs
  cops : L.cops = stdCops
  ixs : ∀ k, ∀ r ∈ L.ixs, IxOk P w K mg base k r
  sets : ∀ k X, Bs P w K mg base k X → ∀ r ∈ L.sets, PSet X (liftSet X.K r)
  bcs : ∀ k, ∀ p ∈ L.bcs, BcOk P w K mg base k p
  lfs : L.lfs = stdLfs
  bms : ∀ k, ∀ b ∈ L.bms, BmOk P w K mg base k b
  its : ∀ k, ∀ p ∈ L.its, ItOk P w K mg base k p
  spcs : ∀ k, ∀ p ∈ L.spcs, SpcOk P w K mg base k p
  tyns : ∀ x ∈ L.tyns, mg x = none
section
variable {P : Program} {w : World} {K : PySem.W.Frag} {mg : Str → Option Value} {base : Heap} {L : Lib} {D : List DefE} {adr : Nat → Addr}
theorem some_of {α : Type} {o : Option α} (h : o.isSome = true) : ∃ a, o = some a := Option.isSome_iff_exists.mp h
mutual
theorem prg_ok (R : Prg P K mg L D adr) (S : StdL P w K mg base L) : ∀ n, Lib.Ok P w K mg base (2 * n) (Gam L D n) L
  | n => {
    fns := fun j x h => by
      obtain ⟨h1, h2⟩ := R.fns j x h
      obtain ⟨d, hd⟩ := some_of h1
      obtain ⟨fd, F, B⟩ := (R.ad j d hd).ex
      exact ⟨adr j, fd, d.ps, h2, F.kp, B, prg_fn R S n j d hd fd F⟩
    dfs := fun f j h => by
      obtain ⟨rfl, h1⟩ := R.dfs f j h
      obtain ⟨d, hd⟩ := some_of h1
      obtain ⟨fd, F, B⟩ := (R.ad j d hd).ex
      exact ⟨fd, d.ps, F.kp, B, prg_fn R S n j d hd fd F⟩
    cst := fun j p h => R.cst p (List.mem_of_getElem? h)
    bops := fun j p h X B => std_bops B p (by rw [← S.bops]; exact List.mem_of_getElem? h)
    augs := fun j p h X B => std_augs p (by rw [← S.augs]; exact List.mem_of_getElem? h)
    cops := fun j p h X B => std_cops B p (by rw [← S.cops]; exact List.mem_of_getElem? h)
    ixs := fun j r h => S.ixs _ r (List.mem_of_getElem? h)
    sets := fun j r h X B => S.sets _ X B r (List.mem_of_getElem? h)
    bcs := fun j p h => S.bcs _ p (List.mem_of_getElem? h)
    isi := R.nms _ (by decide)
    tys := S.tyns
    lfs := fun j p h => std_lfs R.nms p (by rw [← S.lfs]; exact List.mem_of_getElem? h)
    bms := fun j b h => S.bms _ b (List.mem_of_getElem? h)
    its := fun j p h => S.its _ p (List.mem_of_getElem? h)
    cls := fun c p h => ⟨(R.cls p (List.mem_of_getElem? h)).1, (R.cls p (List.mem_of_getElem? h)).2.1⟩
    mkc := fun c p h => by
      obtain ⟨_, _, h3, h4⟩ := R.cls p (List.mem_of_getElem? h)
      obtain ⟨d, hd⟩ := some_of h4
      obtain ⟨fd, F, B⟩ := (R.ad _ d hd).ex
      exact ⟨adr p.2.2, fd, d.ps, h3, B, prg_fn R S n _ d hd fd F⟩
    meths := fun c m j p h hp => by
      obtain ⟨h3, h4⟩ := R.meths c m j p h hp
      obtain ⟨d, hd⟩ := some_of h4
      obtain ⟨fd, F, B⟩ := (R.ad _ d hd).ex
      exact ⟨adr j, fd, d.ps, h3, B, prg_fn R S n _ d hd fd F⟩
    attrs := R.attrs
    excs := fun X B x hx => by
      obtain ⟨C, h1, h2, h3, h4, h5⟩ := R.excs x hx
      refine ⟨C, by rw [B.mg]; exact h1, by rw [B.K]; exact h2, raises_own (by rw [B.K]; exact h3) (by rw [B.K]; exact h4), by rw [B.K]; exact h5⟩
    xtab := fun X B a ha b hb => by
      obtain ⟨ca, cb, h1, h2, h3⟩ := R.xtab a ha b hb
      exact ⟨ca, cb, by rw [B.mg]; exact h1, by rw [B.mg]; exact h2, by rw [B.K]; exact h3⟩
    spcs := fun j p h => S.spcs _ p (List.mem_of_getElem? h) }
termination_by n => (n, 1)
theorem prg_fn (R : Prg P K mg L D adr) (S : StdL P w K mg base L) : ∀ (n j : Nat) (d : DefE), D[j]? = some d → ∀ fd, Fun K d.x d.qual d.st (adr j) fd → FnOk P w K mg base (CX P w) (2 * n) (adr j) fd d.ps (spM K mg (Gam L D n j))
  | 0, j, d, hd, fd, F => fn_bad
  | n + 1, j, d, hd, fd, F => by
    have OK := prg_ok R S n
    have C := R.chk d (List.mem_of_getElem? hd)
    have e : Gam L D (n + 1) j = runD L (Gam L D n) d.N.length d.ps.length d.t := by
      show (match D[j]? with | some d => runD L (Gam L D n) d.N.length d.ps.length d.t | none => badM) = _
      rw [hd]
    rw [e]
    exact def_ok OK F C.1 C.2
termination_by n => (n, 0)
end
theorem FnOk.imp {CXx : CXT} {k : Nat} {f : Addr} {fd : FuncData} {ps : List Str} {sp sp' : Sp} (F : FnOk P w K mg base CXx k f fd ps sp) (h : ∀ vs H Q E, sp' vs H Q E → sp vs H Q E) : FnOk P w K mg base CXx k f fd ps sp' :=
  ⟨fun vs H Q E z => F.len vs H Q E (h _ _ _ _ z), fun A outer s H args binds vs Q E hr he hb r z => F.run A outer s H args binds vs Q E hr he hb r (h _ _ _ _ z)⟩
/-- what a law asks: of a script the value True -/
def LawS (S : MSp) : Prop := ∀ ns : List Int, ns.length ≤ 63 → S [.rl (ns.map W.int)] (fun _ => none) (fun x _ => x = .bl true) noX
end
end MP
set_option Elab.async false
set_option autoImplicit false
set_option linter.all false
set_option maxRecDepth 100000
namespace MP
open PySem PySem.Spec PyProof.Rows L2
/-- what a law promises of a script -/
def spT (K : PySem.W.Frag) : Sp := fun vs H Q _ => ∃ (a : Addr) (ns : List Int), vs = [.ref a] ∧ SqR K H a (ns.map V.int) ∧ ns.length ≤ 63 ∧ ∀ H', Q (.bl true) H'
theorem spT_of {K : PySem.W.Frag} {mg : Str → Option Value} {S : MSp} (hS : LawS S) : ∀ vs H Q E, spT K vs H Q E → spM K mg S vs H Q E := fun vs H Q E h => by
  obtain ⟨a, ns, rfl, hs, hl, hq⟩ := h
  refine ⟨[.rl (ns.map W.int)], fun _ => none, fun x _ => x = .bl true, noX, .cons (.rl hs (RVs.ints ns)) .nil, (fun _ _ e => nomatch e), hS ns hl, fun v H' x μ' _ r _ e => ?_, pxq0⟩
  subst e
  cases r
  exact hq H'
theorem sqR_of {K : PySem.W.Frag} {H : Hp} {a : Addr} {xs : List V} (o : Only H) (h : SqL K H a xs) : SqR K H a xs := by
  rcases h with (h | h) | ⟨ob, its, n, h1, h2, h3, h4, h5, h6⟩
  · rcases o a with e | ⟨z, ys, e⟩
    · rw [e] at h; cases h
    · rw [e] at h; cases h
  · exact .inl h
  · exact .inr ⟨ob, its, n, h1, h2, h3, h4, h5, h6⟩
theorem walkM {l : PySem.W.OpenLaw} {n : Nat} {q : Program} {loose : List Str} {XP : (Str → Option Value) → Heap → Prop} {YP : World → Heap → Prop} {d : DefRec} {K : Params → PySem.W.Frag} (hn : l.most = some 63) (hdf : d.params.defaults = []) (hr : Room (2 * n) callerA)
    (hY : ∀ (w : World) (h : Heap), YP w h → (K w.params).In h)
    (F : ∀ (w : World) (mg : Str → Option Value) (fa : Addr) (h : Heap), (K w.params).In h → h.Ns mainGlobals mg → mg d.name = some (.ref fa) →
      ∃ fd : FuncData, (∀ (s : Shared) (u : Value), BindsTo s fd ⟨[u], []⟩ [("script", u)]) ∧ ∀ base : Heap, (K w.params).In base → base.Ns mainGlobals mg → FnOk l.prog w (K w.params) mg base (CX l.prog w) (2 * n) fa fd ["script"] (spT (K w.params))) :
    PySem.W.WalkO q loose XP YP l.row.toRowW d [] (fun f vs => PySem.call f vs) :=
  L2.walk_of (n := 63) (k := 2 * n) (x := "script") (CX := fun w => CX l.prog w) (sp := fun w => spT (K w.params)) hn (by decide) hdf hr hY F (fun w H a ns hl ho hS => ⟨a, ns, rfl, sqR_of ho hS, hl, fun _ => rfl⟩) fun w H s e s' z => by
    obtain ⟨_, _, _, _, _, _, _, _, _, _, _, _, z⟩ := z
    exact z
end MP
set_option Elab.async false
set_option autoImplicit false
set_option linter.all false
set_option maxRecDepth 100000
namespace MP
open PySem PySem.Spec PyProof.Rows L2
/-! ### len(set(xs)), xs a tuple or a list of tuples, nested -/
mutual
inductive KeyW : W → NestedKey → Prop
  | non : KeyW .non .none
  | bl (b : Bool) : KeyW (.bl b) (.num (if b = true then 1 else 0))
  | int (i : Int) : KeyW (.int i) (.num i)
  | str (x : Str) : KeyW (.str x) (.text x)
  | tup {ws : List W} {ks : List NestedKey} : KeysW ws ks → KeyW (.tup ws) (.tup ks)
inductive KeysW : List W → List NestedKey → Prop
  | nil : KeysW [] []
  | cons {w : W} {k : NestedKey} {ws : List W} {ks : List NestedKey} : KeyW w k → KeysW ws ks → KeysW (w :: ws) (k :: ks)
end
/-- tuples, each a key -/
def TupKeys : List W → List NestedKey → Prop := fun ws ks => KeysW ws ks ∧ (∀ w ∈ ws, ∃ us, w = .tup us) ∧ (∀ k ∈ ks, k.depth ≤ 8) ∧ ks.length < 64
def oLenSet : OC
  | [.tup xs], μ, Q => ∃ ks, TupKeys xs ks ∧ ∀ l : List NestedKey, l.Nodup → (∀ k, k ∈ l ↔ k ∈ ks) → Q (.int l.length) μ
  | [.ref a], μ, Q => ∃ xs ks, μ a = some (.lst xs) ∧ TupKeys xs ks ∧ ∀ l : List NestedKey, l.Nodup → (∀ k, k ∈ l ↔ k ∈ ks) → Q (.int l.length) μ
  | _, _, _ => False
def lookLenSet : Expr → Option (List Expr)
  | .Call (.Name x _) [.Call (.Name y _) [a] [] _] [] _ => if x = "len" ∧ y = "set" ∧ noStar [a] = true then some [a] else none
  | _ => none
def spLenSet : Spc := ⟨["len", "set"], lookLenSet, oLenSet⟩
def stdSpcs : List Spc := [spLenSet, spListRg, spTupRg]
end MP
set_option Elab.async false
set_option autoImplicit false
set_option linter.all false
set_option maxRecDepth 100000
namespace MP
open PySem PySem.Spec PyProof.Rows L2
/-! ### what stands at the top -/
section
variable {K : PySem.W.Frag} {h : Heap} {mg : Str → Option Value} {d : DefE}
def TopDef (K : PySem.W.Frag) (mg : Str → Option Value) (d : DefE) : Prop := ∃ f, mg d.x = some (.ref f) ∧ DefAt K d f
abbrev BindsAll (d : DefE) : Prop := ∀ (kV doc pm : Value) (an : Option Addr) (cdv ct : Value) (us : List Value), us.length = d.ps.length → bindArgs (PySem.W.fnOf d.x d.qual (defArgs d.st) (defBody d.st) (defScope d.st) .none kV doc pm an cdv ct) ⟨us, []⟩ = pure (d.ps.zip us)
theorem defAt_mk {f : Addr} {oc : Value} {od an : Option Addr} {osl : Array (Option Value)} {kV doc pm cdv ct : Value} (b : BindsAll d) (l : K.lookup f = some ⟨oc, od, .func (PySem.W.fnOf d.x d.qual (defArgs d.st) (defBody d.st) (defScope d.st) .none kV doc pm an cdv ct), osl⟩)
    (c : PySem.W.codeIn K cdv d.qual = true) (k : PySem.W.keepIn K (.ref f) = true) : DefAt K d f := by
  have F := fun_mk (st := d.st) l c k
  exact ⟨_, F, F.binds b⟩
theorem top_mk (X : K.In h) (G : h.Ns mainGlobals mg) {f : Addr} {oc : Value} {od an : Option Addr} {osl : Array (Option Value)} {kV doc pm cdv ct : Value} (b : BindsAll d) (a : PySem.W.nsIn K mainGlobals d.x = some (some (.ref f)))
    (l : K.lookup f = some ⟨oc, od, .func (PySem.W.fnOf d.x d.qual (defArgs d.st) (defBody d.st) (defScope d.st) .none kV doc pm an cdv ct), osl⟩)
    (c : PySem.W.codeIn K cdv d.qual = true) (k : PySem.W.keepIn K (.ref f) = true) : TopDef K mg d := ⟨f, PySem.W.mg_of X G a, defAt_mk b l c k⟩
def MethDef (K : PySem.W.Frag) (C : Addr) (m : Str) (d : DefE) : Prop := ∃ f, Meth K C m f ∧ DefAt K d f
theorem methD_mk {C f : Addr} {m : Str} {oc : Value} {od an : Option Addr} {osl : Array (Option Value)} {kV doc pm cdv ct : Value} (b : BindsAll d) (a : PySem.W.findIn K (.ref C) m = some (some (.ref f))) (i : PySem.W.isFn K (.ref f) = true)
    (l : K.lookup f = some ⟨oc, od, .func (PySem.W.fnOf d.x d.qual (defArgs d.st) (defBody d.st) (defScope d.st) .none kV doc pm an cdv ct), osl⟩)
    (c : PySem.W.codeIn K cdv d.qual = true) (k : PySem.W.keepIn K (.ref f) = true) : MethDef K C m d := ⟨f, ⟨a, i, k⟩, defAt_mk b l c k⟩
structure ClsAt (K : PySem.W.Frag) (mg : Str → Option Value) (x : Str) (C : Addr) : Prop where
  mgc : mg x = some (.ref C)
  cls : Cls K C
  mkc : PySem.W.makesIn K C = true
  kp : PySem.W.keepIn K (.ref C) = true
theorem clsAt_mk (X : K.In h) (G : h.Ns mainGlobals mg) {x : Str} {C : Addr} (aC : PySem.W.nsIn K mainGlobals x = some (some (.ref C))) (pg : PySem.W.plainGet K C Str.empty = true) (hd : PySem.W.hasDictIn K C = true) (po : PySem.W.plainOver K C = true)
    (sa : PySem.W.findIn K (.ref C) "__setattr__" = some (some (.builtin "object.__setattr__"))) (mk : PySem.W.makesIn K C = true) (kc : PySem.W.keepIn K (.ref C) = true) : ClsAt K mg x C := ⟨PySem.W.mg_of X G aC, ⟨pg, hd, po, sa⟩, mk, kc⟩
def ExcDef (K : PySem.W.Frag) (mg : Str → Option Value) (x : Str) : Prop := ∃ C, mg x = some (.ref C) ∧ PySem.W.keepIn K (.ref C) = true ∧ PySem.W.subIn K (.ref C) (.type "BaseException") = some true ∧ PySem.W.typeIn K (.ref C) = some (.type "type") ∧ PySem.W.excIn K C [.type "ValueError", .type "Exception", .type "BaseException", .type "object"] "ValueError.__new__" = true
theorem exc_mk (X : K.In h) (G : h.Ns mainGlobals mg) {x : Str} {C : Addr} (a : PySem.W.nsIn K mainGlobals x = some (some (.ref C))) (k : PySem.W.keepIn K (.ref C) = true) (s : PySem.W.subIn K (.ref C) (.type "BaseException") = some true) (t : PySem.W.typeIn K (.ref C) = some (.type "type"))
    (e : PySem.W.excIn K C [.type "ValueError", .type "Exception", .type "BaseException", .type "object"] "ValueError.__new__" = true) : ExcDef K mg x := ⟨C, PySem.W.mg_of X G a, k, s, t, e⟩
def ExcPair (K : PySem.W.Frag) (mg : Str → Option Value) (x y : Str) : Prop := ∃ ca cb, mg x = some ca ∧ mg y = some cb ∧ PySem.W.exmOne K ca cb = some (decide (x = y))
theorem xt_mk (X : K.In h) (G : h.Ns mainGlobals mg) {x y : Str} {A B : Addr} {b : Bool} (hb : b = decide (x = y)) (a : PySem.W.nsIn K mainGlobals x = some (some (.ref A))) (c : PySem.W.nsIn K mainGlobals y = some (some (.ref B))) (s : PySem.W.subIn K (.ref B) (.type "BaseException") = some true)
    (i : PySem.W.isClsIn K B = true) (t : PySem.W.typeIn K (.ref B) = some (.type "type")) (e : PySem.W.subIn K (.ref A) (.ref B) = some b) : ExcPair K mg x y := by
  subst hb
  refine ⟨.ref A, .ref B, PySem.W.mg_of X G a, PySem.W.mg_of X G c, ?_⟩
  have e1 : (PySem.W.subIn K (.ref B) (.type "BaseException") == some true) = true := by rw [s] <;> rfl
  have e2 : ((PySem.W.clsIn K B).isSome && PySem.W.typeIn K (.ref B) == some (.type "type")) = true := by
    have h2' : (PySem.W.clsIn K B).isSome = true := i
    rw [h2', t] <;> rfl
  show (if (PySem.W.subIn K (.ref B) (.type "BaseException") == some true) = true then (if ((PySem.W.clsIn K B).isSome && PySem.W.typeIn K (.ref B) == some (.type "type")) = true then PySem.W.subIn K (.ref A) (.ref B) else none) else none) = _
  rw [if_pos e1, if_pos e2]
  exact e
theorem int_mk (X : K.In h) (G : h.Ns mainGlobals mg) {x : Str} {i : Int} {t : Tok} (a : PySem.W.nsIn K mainGlobals x = some (some (.int i t))) : ∃ u v, mg x = some u ∧ RelV v u ∧ ∀ H, RV K H v (.int i) := ⟨_, .int i, PySem.W.mg_of X G a, ⟨t, rfl⟩, fun H => .int i⟩
theorem def_cst {f : Addr} {x : Str} (h : mg x = some (.ref f)) : ∃ u v, mg x = some u ∧ RelV v u ∧ ∀ H, RV K H v (.ref f) := ⟨_, .ref f, h, rfl, fun H => .ref f⟩
end
/-- the shared tables -/
theorem stdL_ok {P : Program} {w : World} {K : PySem.W.Frag} {mg : Str → Option Value} {base : Heap} {L : Lib} (hm : ∀ x ∈ stdNames, mg x = none) (e1 : L.bops = stdBops) (e2 : L.augs = stdAugs) (e3 : L.cops = stdCops) (e4 : L.ixs = stdIxs) (e5 : L.sets = stdSets) (e6 : L.bcs = stdBcs) (e7 : L.lfs = stdLfs) (e8 : L.bms = stdBms)
    (e9 : L.its = stdIts) (e10 : L.tyns = stdTyns) (hs : ∀ k, ∀ p ∈ L.spcs, SpcOk P w K mg base k p) : StdL P w K mg base L where
  bops := e1
  augs := e2
  cops := e3
  ixs := fun k r h => std_ixs r (by rw [← e4]; exact h)
  sets := fun k X B r h => std_sets B r (by rw [← e5]; exact h)
  bcs := fun k p h => std_bcs hm p (by rw [← e6]; exact h)
  lfs := e7
  bms := fun k b h => std_bms b (by rw [← e8]; exact h)
  its := fun k p h => std_its hm p (by rw [← e9]; exact h)
  spcs := hs
  tyns := fun x h => by
    rw [e10] at h
    simp only [stdTyns, List.mem_cons, List.not_mem_nil, or_false] at h
    rcases h with rfl | rfl | rfl | rfl | rfl | rfl
    all_goals exact hm _ (by decide)
theorem nms_mk {K : PySem.W.Frag} {h : Heap} {mg : Str → Option Value} (X : K.In h) (G : h.Ns mainGlobals mg) (a : ∀ x ∈ stdNames, PySem.W.nsIn K mainGlobals x = some none) : ∀ x ∈ stdNames, mg x = none := fun x hx => PySem.W.mg_none_of X G (a x hx)
end MP
set_option Elab.async false
set_option autoImplicit false
set_option linter.all false
set_option maxRecDepth 100000
/-! Sets of nested tuples (texts, numbers, None in them): what set(..) of fewer than 64 of them holds. The table's own lemmas are HandS.TupSets'. -/
namespace MP
open PySem PySem.Spec PyProof.Rows L2
section
variable {P : Program} {w : World}
/-- asking whether the hash of v goes by value has an answer, and changes nothing -/
def HashAns (P : Program) (w : World) (n : Nat) (s : Shared) (v : Value) : Prop := ∃ b : Bool, ∀ (A : Around) (E : Value → Shared → Prop) (Q : Bool → Shared → Prop), Q b s → wpAny (model P w) A (hashByValue n v) Q E s
theorem hashAns_list {n : Nat} {s : Shared} : ∀ {vs : List Value}, (∀ v ∈ vs, HashAns P w n s v) → ∃ r : Option Bool, (r = none ∨ r = some false) ∧ ∀ (A : Around) (E : Value → Shared → Prop) (Q : Option Bool × PUnit → Shared → Prop), Q (r, ⟨⟩) s →
    wpAny (model P w) A (forIn vs ((none, ⟨⟩) : Option Bool × PUnit) fun x r => do if !(← hashByValue n x) then pure (ForInStep.done (some false, ⟨⟩)) else pure (ForInStep.yield (none, ⟨⟩))) Q E s
  | [], _ => ⟨none, .inl rfl, fun A E Q h => by
    rw [List.forIn_nil]
    exact wpAny_pure h⟩
  | v :: vs, h => by
    obtain ⟨b, hb⟩ := h v List.mem_cons_self
    cases b with
    | false =>
      refine ⟨some false, .inr rfl, fun A E Q q => ?_⟩
      rw [List.forIn_cons]
      refine wpAny_bind (wpAny_bind (hb A E _ ?_))
      simp only [Bool.not_false, if_true]
      exact wpAny_pure (wpAny_pure q)
    | true =>
      obtain ⟨r, hr, hq⟩ := hashAns_list fun u hu => h u (List.mem_cons_of_mem _ hu)
      refine ⟨r, hr, fun A E Q q => ?_⟩
      rw [List.forIn_cons]
      refine wpAny_bind (wpAny_bind (hb A E _ ?_))
      simp only [Bool.not_true, Bool.false_eq_true, if_false]
      exact wpAny_pure (hq A E Q q)
theorem hashAns_tuple {n : Nat} {s : Shared} {a : Addr} {o : Obj} {vs : Array Value} {m : Nat} (ho : s.heap.get? a = some o) (hc : o.cls = .type "tuple") (hd : o.data = .seq vs m) (h : ∀ v ∈ vs.toList, HashAns P w n s v) : HashAns P w (n + 1) s (.ref a) := by
  have hT : s.TypeIs (.ref a) "tuple" := ⟨o, ho, hc⟩
  obtain ⟨r, hr, hq⟩ := hashAns_list h
  refine ⟨r.isNone, fun A E Q q => ?_⟩
  unfold hashByValue
  refine wpAny_bind (wpAny_specialOf hT F.slot_tuple_hash.lookup ?_)
  show wpAny _ _ (seqItems? (.ref a) >>= _) _ _ s
  refine wpAny_bind (wpAny_seqItems ho hd ?_)
  refine wpAny_bind ?_
  show wpAny _ _ (forIn vs _ _) _ _ s
  rw [← Array.forIn_toList]
  refine hq A E _ ?_
  rcases hr with rfl | rfl
  · exact wpAny_pure q
  · exact wpAny_pure q
mutual
theorem hashAns_key : ∀ (k : NestedKey) (v : Value) (n : Nat) (s : Shared), NestedIs s.heap k v → HashAns P w n s v
  | .none, _, n, s, x => by
    cases x
    refine ⟨true, fun A E Q q => ?_⟩
    cases n <;> exact wpAny_pure q
  | .num i, _, n, s, x => by
    cases x <;> (refine ⟨true, fun A E Q q => ?_⟩; cases n <;> exact wpAny_pure q)
  | .text y, _, n, s, x => by
    cases x
    refine ⟨false, fun A E Q q => ?_⟩
    cases n <;> exact wpAny_pure q
  | .tup ks, _, n, s, x => by
    cases x with
    | tup hg hc hd hk =>
      cases n with
      | zero => exact ⟨false, fun A E Q q => wpAny_pure q⟩
      | succ n => exact hashAns_tuple hg hc hd (hashAns_keys ks _ n s hk)
theorem hashAns_keys : ∀ (ks : List NestedKey) (vs : List Value) (n : Nat) (s : Shared), NestedAll s.heap ks vs → ∀ v ∈ vs, HashAns P w n s v
  | [], _, n, s, x, v, hv => by cases x; cases hv
  | k :: ks, _, n, s, x, v, hv => by
    cases x with
    | cons x1 x2 =>
      rcases List.mem_cons.mp hv with e | hv
      · rw [e]; exact hashAns_key k _ n s x1
      · exact hashAns_keys ks _ n s x2 v hv
end
/-- v is no tuple of a class statement, n levels down -/
def PlainTup (P : Program) (w : World) (n : Nat) (s : Shared) (v : Value) : Prop := ∀ (A : Around) (E : Value → Shared → Prop) (Q : Bool → Shared → Prop), Q false s → wpAny (model P w) A (ofAClassStatement n v) Q E s
theorem plainTup_tuple {n : Nat} {s : Shared} {a : Addr} {o : Obj} {vs : Array Value} {m : Nat} (ho : s.heap.get? a = some o) (hc : o.cls = .type "tuple") (hd : o.data = .seq vs m) (h : ∀ v ∈ vs.toList, PlainTup P w n s v) : PlainTup P w (n + 1) s (.ref a) := fun A E Q q => by
  have hT : s.TypeIs (.ref a) "tuple" := ⟨o, ho, hc⟩
  unfold ofAClassStatement
  refine wpAny_bind (wpAny_typeOf hT ?_)
  dsimp only
  have e : (("tuple" : String) == "tuple") = true := by decide
  simp only [e, if_true, Bool.not_true, Bool.false_eq_true, if_false]
  refine wpAny_bind (wpAny_pure ?_)
  simp only [Bool.not_true, Bool.false_eq_true, if_false]
  refine wpAny_bind (wpAny_seqItems ho hd ?_)
  dsimp only
  refine wpAny_bind ?_
  show wpAny _ _ (forIn vs _ _) _ _ s
  rw [← Array.forIn_toList]
  refine wpAny_forIn_list _ (fun rest r s' => r.1 = none ∧ s' = s ∧ ∀ v ∈ rest, PlainTup P w n s v) _ ?_ ?_ _ _ ⟨rfl, rfl, h⟩
  · rintro v rest r s' ⟨hr, rfl, hall⟩
    refine wpAny_bind (hall v List.mem_cons_self _ _ _ ?_)
    simp only [Bool.false_eq_true, if_false]
    exact wpAny_pure ⟨rfl, rfl, fun u hu => hall u (List.mem_cons_of_mem _ hu)⟩
  · rintro ⟨r1, r2⟩ s' ⟨hr, rfl, _⟩
    simp only at hr
    subst hr
    exact wpAny_pure q
mutual
theorem plainTup_key : ∀ (k : NestedKey) (v : Value) (n : Nat) (s : Shared), NestedIs s.heap k v → k.depth ≤ n → PlainTup P w n s v
  | .none, _, n, s, x, _ => by
    cases x
    exact fun A E Q q => by cases n <;> exact wpAny_pure q
  | .num i, _, n, s, x, _ => by
    cases x <;> exact fun A E Q q => by cases n <;> exact wpAny_pure q
  | .text y, _, n, s, x, _ => by
    cases x
    exact fun A E Q q => by cases n <;> exact wpAny_pure q
  | .tup ks, _, n, s, x, hn => by
    cases x with
    | tup hg hc hd hk =>
      simp only [NestedKey.depth] at hn
      cases n with
      | zero => omega
      | succ n => exact plainTup_tuple hg hc hd (plainTup_keys ks _ n s hk (by omega))
theorem plainTup_keys : ∀ (ks : List NestedKey) (vs : List Value) (n : Nat) (s : Shared), NestedAll s.heap ks vs → NestedKey.depthAll ks ≤ n → ∀ v ∈ vs, PlainTup P w n s v
  | [], _, n, s, x, _, v, hv => by cases x; cases hv
  | k :: ks, _, n, s, x, hn, v, hv => by
    cases x with
    | cons x1 x2 =>
      simp only [NestedKey.depthAll] at hn
      rcases List.mem_cons.mp hv with e | hv
      · rw [e]; exact plainTup_key k _ n s x1 (by omega)
      · exact plainTup_keys ks _ n s x2 (by omega) v hv
end
/-- a tuple that may be a key -/
def IsN (h : Heap) (k : NestedKey) (a : Addr) : Prop := NestedIs h k (.ref a) ∧ k.depth ≤ 8
/-- a search among such tuples shows nothing -/
theorem seen_key {A : Around} {E : Value → Shared → Prop} {s : Shared} {k : NestedKey} {b : Addr} {Q : Bool → Shared → Prop} (hk : IsN s.heap k b) {ys : List Value} (hy : ∀ y ∈ ys, ∃ k' c, y = Value.ref c ∧ IsN s.heap k' c) (q : Q false s) :
    wpAny (model P w) A (searchCouldBeSeen (.ref b) ys) Q E s := by
  unfold searchCouldBeSeen
  refine wpAny_bind ?_
  refine wpAny_forIn_list _ (fun rest r s' => r.1 = none ∧ s' = s ∧ ∀ y ∈ rest, ∃ k' c, y = Value.ref c ∧ IsN s.heap k' c) _ ?_ ?_ _ _ ⟨rfl, rfl, hy⟩
  · rintro v rest r s' ⟨hr, rfl, hall⟩
    obtain ⟨k', c, rfl, hc⟩ := hall v List.mem_cons_self
    have more : ∀ y ∈ rest, ∃ k' c, y = Value.ref c ∧ IsN s'.heap k' c := fun u hu => hall u (List.mem_cons_of_mem _ hu)
    dsimp only
    by_cases hv : (b == c || (carriedByValue (.ref b) && carriedByValue (.ref c))) = true
    · exact wp_if_pos hv (wpAny_pure ⟨rfl, rfl, more⟩)
    · refine wp_if_neg hv (wpAny_bind (quiet_key k _ 8 s' hk.1 hk.2 _ _ _ ?_))
      simp only [Bool.not_true, Bool.false_eq_true, if_false]
      refine wpAny_bind (quiet_key k' _ 8 s' hc.1 hc.2 _ _ _ ?_)
      simp only [Bool.not_true, Bool.false_eq_true, if_false]
      refine wpAny_bind (plainTup_key k _ 8 s' hk.1 hk.2 _ _ _ ?_)
      simp only [Bool.false_eq_true, if_false]
      refine wpAny_bind (plainTup_key k' _ 8 s' hc.1 hc.2 _ _ _ ?_)
      simp only [Bool.false_eq_true, if_false]
      exact wpAny_pure ⟨rfl, rfl, more⟩
  · rintro ⟨r1, r2⟩ s' ⟨hr, rfl, _⟩
    simp only at hr
    subst hr
    exact wpAny_pure q
end
end MP
set_option Elab.async false
set_option autoImplicit false
set_option linter.all false
set_option maxRecDepth 100000
namespace MP
open PySem PySem.Spec PyProof.Rows L2
abbrev kh (w : World) (k : NestedKey) : Int := k.hash w
def rowsN (w : World) (L : List (Addr × NestedKey)) : List (Int × Value) := L.map fun p => (kh w p.2, Value.ref p.1)
structure SetN (w : World) (h : Heap) (a : Addr) (L : List (Addr × NestedKey)) (es : Array (Int × Value)) (ep : Nat) (t : SetTable) : Prop where
  ob : ∃ o, h.get? a = some o ∧ o.ExactSet ∧ o.data = .set es ep t
  rows : es.toList = rowsN w L
  tab : TabOk t (L.map fun p => kh w p.2)
  nd : (L.map (·.2)).Nodup
  tup : ∀ p ∈ L, IsN h p.2 p.1
  room : L.length * 5 < t.mask * 3
  few : L.length < 64
theorem rowsN_size {w : World} {L : List (Addr × NestedKey)} {es : Array (Int × Value)} (h : es.toList = rowsN w L) : es.size = L.length := by
  rw [← Array.length_toList, h]
  simp [rowsN]
theorem rowsN_at {w : World} {L : List (Addr × NestedKey)} {es : Array (Int × Value)} (h : es.toList = rowsN w L) {i : Nat} {p : Addr × NestedKey} (e : L[i]? = some p) : es[i]? = some (kh w p.2, Value.ref p.1) := by
  rw [← Array.getElem?_toList, h]
  simp [rowsN, e]
section
variable {P : Program} {w : World} {A : Around} {E : Value → Shared → Prop} {s : Shared} {a : Addr} {L : List (Addr × NestedKey)} {es : Array (Int × Value)} {ep : Nat} {t : SetTable}
theorem SetN.fits (R : SetN w s.heap a L es ep t) : t.fits es.size = true := by
  have h1 := R.tab.sz
  rw [List.length_map] at h1
  have h2 := rowsN_size R.rows
  have h3 := R.room
  unfold SetTable.fits SetTable.fill
  rw [R.tab.dm, Bool.and_eq_true, beq_iff_eq, decide_eq_true_eq]
  exact ⟨by omega, by show t.place.size + 0 ≤ t.mask; omega⟩
theorem SetN.stays (R : SetN w s.heap a L es ep t) : ¬ t.gaveWay = true := by
  unfold SetTable.gaveWay
  rw [mask_odd R.tab.mok]
  decide
theorem nth_nodummy (m : Nat) : ∀ (n : Nat) (p : SetTable.Probe), p.dummy = none → (nth m p n).dummy = none
  | 0, _, h => h
  | n + 1, p, h => nth_nodummy m n (adv m p) (by unfold adv; split <;> exact h)
/-- where the walk for the hash h stands behind k steps -/
abbrev stp (m : Nat) (h : Int) (k : Nat) : SetTable.Probe := nth m (runAt m (SetTable.bits h % (m + 1)) (SetTable.bits h)) k
/-- the search for the key k, from the c-th step of its walk on; K: the first free step -/
theorem findN (R : SetN w s.heap a L es ep t) {x : Addr} {k : NestedKey} (hx : IsN s.heap k x) (hu : A.units + 8 < cLine) {K : Nat} (hKf : K < 10 * SetTable.turns t.mask) (hK : way t.mask (kh w k) K ∉ t.place.toList)
    (hKb : ∀ c, c < K → way t.mask (kh w k) c ∈ t.place.toList) {Q : SetFound → Shared → Prop} (hin : k ∈ L.map (·.2) → Q (.there none) s) (hout : k ∉ L.map (·.2) → Q (.free (way t.mask (kh w k) K) false) s) :
    ∀ (f c : Nat) (st : Option SetTable.Probe), st.getD (t.probeStart (kh w k)) = stp t.mask (kh w k) c → c ≤ K → K - c < f →
      (∀ (i : Nat) p, L[i]? = some p → p.2 = k → ∃ c', c ≤ c' ∧ c' < K ∧ t.place.toList[i]? = some (way t.mask (kh w k) c')) →
      wpAny (model P w) A (setSearchFrom a (.ref x) (kh w k) true f st) Q E s := by
  intro f
  induction f with
  | zero => exact fun c st _ _ hf => absurd hf (Nat.not_lt_zero _)
  | succ f ih =>
    intro c st hst hc hf hre
    obtain ⟨o, ho, hex, hd⟩ := R.ob
    have sh : ∀ q, nth t.mask (stp t.mask (kh w k) c) q = stp t.mask (kh w k) (c + q) := fun q => (nth_add t.mask c _ q).symm
    have sj : ∀ q, (nth t.mask (stp t.mask (kh w k) c) q).j = way t.mask (kh w k) (c + q) := fun q => congrArg SetTable.Probe.j (sh q)
    have hcK : c + (K - c) = K := by omega
    have hat : ∀ (i : Nat) p, L[i]? = some p → (es[i]?.map (·.1)).getD 0 = kh w p.2 := fun i p hp => by rw [rowsN_at R.rows hp]; rfl
    rw [setSearchFrom_succ]
    refine wpAny_bind (wpAny_setState_of ho hd R.fits ?_)
    dsimp only
    refine wp_if_neg R.stays ?_
    have spec := go_spec t R.tab.ris R.tab.dm (fun i => (es[i]?.map (·.1)).getD 0) (kh w k) (10 * SetTable.turns t.mask) (K - c) (stp t.mask (kh w k) c) (nth_nodummy _ c _ rfl) (by omega)
      (fun q hq => by rw [sj]; exact hKb _ (by omega)) (by rw [sj, hcK]; exact hK)
    rcases spec with ⟨q, i, hq, hi, hh, hno, hpr⟩ | ⟨hno, hpr⟩
    · have hpr' : t.probe (fun i => (es[i]?.map (·.1)).getD 0) (kh w k) (st.getD (t.probeStart (kh w k))) = some (.candidate (way t.mask (kh w k) (c + q)) i (stp t.mask (kh w k) (c + (q + 1)))) := by
        rw [hst, ← sj, ← sh]
        exact hpr
      rw [hpr']
      dsimp only
      rw [sj] at hi
      have hil : i < L.length := by
        have h1 : i < t.place.toList.length := (List.getElem?_eq_some_iff.mp hi).1
        have h2 := R.tab.sz
        rw [List.length_map] at h2
        rw [Array.length_toList] at h1
        omega
      obtain ⟨p, hp⟩ : ∃ p, L[i]? = some p := ⟨_, List.getElem?_eq_getElem hil⟩
      have hpm : p ∈ L := List.mem_of_getElem? hp
      have hpt := R.tup p hpm
      have live : t.slot (way t.mask (kh w k) (c + q)) = .live i := slot_live R.tab.ris hi
      have rest : wpAny (model P w) A (searchRest a (.ref x) (kh w k) true f es t (way t.mask (kh w k) (c + q)) i (stp t.mask (kh w k) (c + (q + 1)))) Q E s := by
        unfold searchRest
        rw [rowsN_at R.rows hp]
        dsimp only
        refine wpAny_bind (wpAny_holding ((nestedKind P w).eqBool (by exact hu) hpt hx ?_))
        refine wpAny_bind (wpAny_setState_of ho hd R.fits ?_)
        dsimp only
        by_cases hkk : p.2 = k
        · exact wp_if_pos (by simp [hkk]) (wpAny_pure (hin (List.mem_map.mpr ⟨p, hpm, hkk⟩)))
        · refine wp_if_neg (by simp [hkk]) ?_
          rw [sameMem]
          dsimp only
          simp only [if_true, live, rowsN_at R.rows hp]
          refine wpAny_bind (wpAny_isSame_ref_self (wpAny_bind (wpAny_pure ?_)))
          simp only [if_true]
          refine wp_if_neg (by simp [hkk]) ?_
          refine ih (c + (q + 1)) _ rfl (by omega) (by omega) fun i0 p0 h0 hk0 => ?_
          obtain ⟨c', a1, a2, a3⟩ := hre i0 p0 h0 hk0
          refine ⟨c', ?_, a2, a3⟩
          have n1 : ¬ c' < c + q := fun z => hno (c' - c) i0 (by omega) (by rw [sj, show c + (c' - c) = c' by omega]; exact a3) ((hat i0 p0 h0).trans (by rw [hk0]))
          have n2 : c' ≠ c + q := fun z => by
            rw [z] at a3
            have s0 := slot_live R.tab.ris a3
            rw [live] at s0
            injection s0 with s0
            rw [← s0, hp] at h0
            cases h0
            exact hkk hk0
          omega
      by_cases hl : t.led = true
      · exact wp_if_neg (by simp [hl]) rest
      · refine wp_if_pos (by simp [hl]) (wpAny_bind (seen_key hx (fun y hy => ?_) (wp_if_neg (by decide) rest)))
        obtain ⟨e, he, rfl⟩ := List.mem_map.mp hy
        have he1 : e ∈ es.toList := by
          have : e ∈ es ∧ e.1 = kh w k := by simpa using he
          simpa using this.1
        rw [R.rows] at he1
        obtain ⟨p2, hp2, rfl⟩ := List.mem_map.mp he1
        exact ⟨p2.2, p2.1, rfl, R.tup p2 hp2⟩
    · have hpr' : t.probe (fun i => (es[i]?.map (·.1)).getD 0) (kh w k) (st.getD (t.probeStart (kh w k))) = some (.empty (way t.mask (kh w k) K) none) := by
        have e2 : way t.mask (kh w k) K = (nth t.mask (stp t.mask (kh w k) c) (K - c)).j := by rw [sj, hcK]
        rw [hst, e2]
        exact hpr
      rw [hpr']
      dsimp only
      refine wpAny_pure (hout fun hm => ?_)
      obtain ⟨p0, h0, hk0⟩ := List.mem_map.mp hm
      obtain ⟨i0, hi0⟩ := List.mem_iff_getElem?.mp h0
      obtain ⟨c', a1, a2, a3⟩ := hre i0 p0 hi0 hk0
      exact hno (c' - c) i0 (by omega) (by rw [sj, show c + (c' - c) = c' by omega]; exact a3) ((hat i0 p0 hi0).trans (by rw [hk0]))
/-- the search as adding asks for it -/
theorem searchN (R : SetN w s.heap a L es ep t) {x : Addr} {k : NestedKey} (hx : IsN s.heap k x) (hu : A.units + 8 < cLine) {Q : SetFound → Shared → Prop} (hin : k ∈ L.map (·.2) → Q (.there none) s)
    (hout : ∀ K, k ∉ L.map (·.2) → way t.mask (kh w k) K ∉ t.place.toList → (∀ c, c < K → way t.mask (kh w k) c ∈ t.place.toList) → Q (.free (way t.mask (kh w k) K) false) s) :
    wpAny (model P w) A (setSearch a (.ref x) (kh w k) true) Q E s := by
  have hroom := R.room
  obtain ⟨K, hKf, hK, hKb⟩ := R.tab.first (by rw [List.length_map]; omega) (kh w k)
  have hbig : K < 100000 := by
    have : 10 * SetTable.turns t.mask ≤ 1420 := by
      unfold SetTable.turns
      rcases R.tab.mok with e | e | e <;> omega
    omega
  unfold setSearch
  refine findN R hx hu hKf hK hKb hin (fun hn => hout K hn hK hKb) 100000 0 none rfl (Nat.zero_le _) (by omega) fun i p hp hk => ?_
  have hi : (L.map fun p => kh w p.2)[i]? = some (kh w k) := by rw [List.getElem?_map, hp, ← hk]; rfl
  have hil : i < t.place.toList.length := by
    have h1 : i < L.length := (List.getElem?_eq_some_iff.mp hp).1
    have h2 := R.tab.sz
    rw [List.length_map] at h2
    rw [Array.length_toList]
    omega
  have hj := List.getElem?_eq_getElem hil
  obtain ⟨c, hc, e⟩ := R.tab.before hK hi hj
  exact ⟨c, Nat.zero_le _, hc, by rw [hj, e]⟩
end
end MP
set_option Elab.async false
set_option autoImplicit false
set_option linter.all false
set_option maxRecDepth 100000
namespace MP
open PySem PySem.Spec PyProof.Rows L2
theorem fm_all {α β : Type} {f : α → Option β} {g : α → β} : ∀ {l : List α}, (∀ x ∈ l, f x = some (g x)) → l.filterMap f = l.map g
  | [], _ => rfl
  | x :: r, h => by rw [List.filterMap_cons_some (h x List.mem_cons_self), List.map_cons, fm_all fun y hy => h y (List.mem_cons_of_mem _ hy)]
theorem fm_range {α : Type} (L : List α) : (List.range L.length).filterMap (fun i => L[i]?) = L := by
  have key : ∀ n, n ≤ L.length → (List.range n).filterMap (fun i => L[i]?) = L.take n := by
    intro n
    induction n with
    | zero => exact fun _ => rfl
    | succ n ih =>
      intro hn
      rw [List.range_succ, List.filterMap_append, ih (by omega), List.take_succ, List.getElem?_eq_getElem (by omega), List.filterMap_cons_some (List.getElem?_eq_getElem (by omega))]
      rfl
  rw [key _ (Nat.le_refl _), List.take_length]
theorem orderN {w : World} (L : List (Addr × NestedKey)) (es : Array (Int × Value)) (order : Array Nat) (hr : es.toList = rowsN w L) (hp : order.toList.Perm (List.range L.length)) :
    ∃ L2, (order.filterMap (es[·]?)).toList = rowsN w L2 ∧ L2.Perm L ∧ (L2.map fun p => kh w p.2) = order.toList.map fun i => (es.map (·.1)).getD i 0 := by
  have lt : ∀ i ∈ order.toList, i < L.length := fun i hi => List.mem_range.mp (hp.mem_iff.mp hi)
  have eq1 : ∀ i : Nat, es[i]? = (L[i]?).map fun (p : Addr × NestedKey) => (kh w p.2, Value.ref p.1) := fun i => by
    rw [← Array.getElem?_toList, hr, rowsN, List.getElem?_map]
  refine ⟨order.toList.filterMap (fun i => L[i]?), ?_, ?_, ?_⟩
  · rw [Array.toList_filterMap, rowsN, List.map_filterMap]
    congr 1
    funext i
    exact eq1 i
  · have h1 := hp.filterMap (fun i => L[i]?)
    rw [fm_range] at h1
    exact h1
  · rw [List.map_filterMap]
    refine fm_all fun i hi => ?_
    have hL := List.getElem?_eq_getElem (lt i hi)
    have e1 : (es.map (·.1))[i]? = some (kh w (L[i]'(lt i hi)).2) := by rw [Array.getElem?_map, eq1, hL]; rfl
    rw [hL]
    simp [Array.getD_eq_getD_getElem?, e1]
theorem isN_same {h h' : Heap} {k : NestedKey} {a b : Addr} {o : Obj} {es : Array (Int × Value)} {ep : Nat} {t : SetTable} (hb : IsN h k b) (ho : h.get? a = some o) (hd : o.data = .set es ep t) (hs : Heap.SameBut a h h') : IsN h' k b :=
  ⟨NestedIs.at (fun c oc vs n h1 h2 => by
    refine (hs.2 c fun e => ?_).trans h1
    subst e
    rw [ho] at h1
    cases h1
    rw [hd] at h2
    cases h2) k _ hb.1, hb.2⟩
section
variable {P : Program} {w : World} {A : Around} {E : Value → Shared → Prop} {s : Shared} {a : Addr} {L : List (Addr × NestedKey)} {es : Array (Int × Value)} {ep : Nat} {t : SetTable}
/-- the table laid anew, larger -/
theorem relayN {o : Obj} (ho : s.heap.get? a = some o) (hex : o.ExactSet) (hd : o.data = .set es ep t) (hrows : es.toList = rowsN w L) (hsz : t.place.size = es.size) (hdm : t.dummies = #[]) (hfl : es.size ≤ t.mask)
    (nd : (L.map (·.2)).Nodup) (tup : ∀ p ∈ L, IsN s.heap p.2 p.1) (few : L.length < 64) {wanted M : Nat} (hw : SetTable.sizeAbove wanted - 1 = M) (hM : MaskOk M) (hw2 : SetTable.sizeAbove wanted ≤ 128) (hn : L.length * 5 < M * 3) {Q : Unit → Shared → Prop}
    (hQ : ∀ h' L' es' ep' t', Heap.SameBut a s.heap h' → SetN w h' a L' es' ep' t' → L'.Perm L → Q () { s with heap := h' }) : wpAny (model P w) A (setRelay a wanted) Q E s := by
  have hsl := rowsN_size hrows
  have hfits : t.fits es.size = true := by
    unfold SetTable.fits SetTable.fill
    rw [hdm, Bool.and_eq_true, beq_iff_eq, decide_eq_true_eq]
    exact ⟨by omega, by show t.place.size + 0 ≤ t.mask; omega⟩
  obtain ⟨t', order, e, hp, T, em, el, ep', ed⟩ := relaid_ok t (hs := es.map (·.1)) (wanted := wanted) hw hM (by rw [Array.size_map, hsl]; omega)
  rw [Array.size_map, hsl] at hp
  obtain ⟨L2, r1, r2, r3⟩ := orderN L es order hrows hp
  rw [← r3] at T
  have hs2 : (order.filterMap (es[·]?)).size = es.size := by rw [rowsN_size r1, r2.length_eq, hsl]
  rw [setRelay_eq]
  refine wpAny_bind (wpAny_setState_of ho hd hfits ?_)
  dsimp only
  refine wp_if_neg (by rw [sizeLine_eq]; omega) ?_
  rw [e]
  dsimp only
  refine wpAny_bind (wp_if_neg (by rw [hs2]; simp) (wpAny_pure ?_))
  dsimp only
  refine wpAny_storeSet_of ho hd ?_ (by rw [hs2, hsl, sizeLine_eq]; omega)
  have sb : Heap.SameBut a s.heap (s.heap.update a (Obj.putSet (order.filterMap (es[·]?)) t')) := Heap.SameBut.update ..
  refine hQ _ L2 (order.filterMap (es[·]?)) (ep + 1) t' sb ⟨⟨_, store_at ho hd, ⟨hex.1, hex.2.1, hex.2.2⟩, rfl⟩, r1, T, (r2.map (·.2)).nodup_iff.mpr nd, fun p hpm => isN_same (tup p (r2.mem_iff.mp hpm)) ho hd sb, ?_, by rw [r2.length_eq]; exact few⟩ r2
  rw [r2.length_eq, em]
  exact hn
/-- adding -/
theorem addN (R : SetN w s.heap a L es ep t) {x : Addr} {k : NestedKey} (hx : IsN s.heap k x) (hu : A.units + 8 < cLine) (hfew : L.length + 1 < 64) {Q : Bool → Shared → Prop}
    (hQ : ∀ b h' L' es' ep' t', Heap.SameBut a s.heap h' → SetN w h' a L' es' ep' t' → (k ∈ L.map (·.2) → L' = L) → (k ∉ L.map (·.2) → L'.Perm ((x, k) :: L)) → Q b { s with heap := h' }) :
    wpAny (model P w) A (setAddHashed a (.ref x) (kh w k)) Q E s := by
  obtain ⟨o, ho, hex, hd⟩ := R.ob
  have hsl := rowsN_size R.rows
  have hroom := R.room
  unfold setAddHashed
  refine wpAny_holding ?_
  rw [show (100000 : Nat) = 99999 + 1 from rfl, setAddHashedIn_succ]
  refine wpAny_bind (wpAny_setState_of ho hd R.fits ?_)
  dsimp only
  refine wp_if_neg (by simp [byScan, Value.scannable]) ?_
  refine wpAny_bind (searchN R hx hu (fun hm => ?_) fun K hm hK hb => ?_)
  · dsimp only
    exact wpAny_pure (hQ false s.heap L es ep t (Heap.SameBut.refl a s.heap) R (fun _ => rfl) fun z => absurd hm z)
  · dsimp only
    refine wpAny_bind (wpAny_setState_of ho hd R.fits ?_)
    dsimp only
    obtain ⟨q1, q2, q3, q4, q5, q6, q7, q8, q9⟩ := R.tab.put hK hb
    generalize hpt : t.put (way t.mask (kh w k) K) = pt at q1 q3 q4 q9 ⊢
    obtain ⟨t1, p⟩ := pt
    dsimp only at q1 q3 q4 q9 ⊢
    subst q1
    have hin : (SetTable.insertAt es (SetTable.below t.place (way t.mask (kh w k) K)) (kh w k, Value.ref x)).toList = rowsN w (L.take (SetTable.below t.place (way t.mask (kh w k) K)) ++ (x, k) :: L.drop (SetTable.below t.place (way t.mask (kh w k) K))) := by
      rw [SetTable.toList_insertAt, R.rows]
      simp only [rowsN, List.map_append, List.map_cons, List.map_take, List.map_drop]
    generalize hpp : SetTable.below t.place (way t.mask (kh w k) K) = p at q2 q3 hin ⊢
    have pm := put_perm L p (x, k)
    have hlen : (L.take p ++ (x, k) :: L.drop p).length = L.length + 1 := pm.length_eq
    have hhs : (L.take p ++ (x, k) :: L.drop p).map (fun p => kh w p.2) = (L.map fun p => kh w p.2).take p ++ kh w k :: (L.map fun p => kh w p.2).drop p := by
      rw [List.map_append, List.map_cons, List.map_take, List.map_drop]
    rw [← hhs] at q3
    have nd1 : ((L.take p ++ (x, k) :: L.drop p).map (·.2)).Nodup := by
      refine (pm.map (·.2)).nodup_iff.mpr ?_
      rw [List.map_cons]
      exact List.nodup_cons.mpr ⟨hm, R.nd⟩
    have hes : (SetTable.insertAt es p (kh w k, Value.ref x)).size = L.length + 1 := by rw [rowsN_size hin, hlen]
    generalize SetTable.insertAt es p (kh w k, Value.ref x) = es1 at hin hes ⊢
    generalize L.take p ++ (x, k) :: L.drop p = L1 at pm hlen q3 nd1 hin
    have fin : ∀ t2 : SetTable, TabOk t2 (L1.map fun p => kh w p.2) → t2.mask = t.mask → t2.fill = (L.map fun p => kh w p.2).length + 1 →
        wpAny (model P w) A (do storeSet a es1 t2; if (!false && t2.tooFull) = true then do setRelay a (SetTable.grown (es.size + 1)); pure true else pure true) Q E s := by
      intro t2 T2 m2 f2
      rw [List.length_map] at f2
      refine wpAny_bind (wpAny_storeSet_of ho hd ?_ (by rw [hes, sizeLine_eq]; omega))
      have sb : Heap.SameBut a s.heap (s.heap.update a (Obj.putSet es1 t2)) := Heap.SameBut.update ..
      have ho1 := store_at (es' := es1) (t' := t2) ho hd
      generalize s.heap.update a (Obj.putSet es1 t2) = h1 at sb ho1 ⊢
      have tup1 : ∀ p ∈ L1, IsN h1 p.2 p.1 := fun p hp => by
        rcases List.mem_cons.mp (pm.mem_iff.mp hp) with e | hp
        · rw [e]; exact isN_same hx ho hd sb
        · exact isN_same (R.tup p hp) ho hd sb
      by_cases hf : t2.tooFull = true
      · have hfull : (L.length + 1) * 5 ≥ t2.mask * 3 := by
          have h := hf
          unfold SetTable.tooFull at h
          rw [decide_eq_true_eq, f2] at h
          exact h
        have hsz1 : t2.place.size = es1.size := by
          have h := T2.sz
          rw [List.length_map, hlen] at h
          rw [h, hes]
        have cases2 : (t.mask = 7 ∧ L.length = 4) ∨ (t.mask = 31 ∧ L.length = 18) := by
          rcases R.tab.mok with e | e | e
          · left; rw [m2, e] at hfull; rw [e] at hroom; exact ⟨e, by omega⟩
          · right; rw [m2, e] at hfull; rw [e] at hroom; exact ⟨e, by omega⟩
          · exfalso; rw [m2, e] at hfull; omega
        have go : ∀ M, SetTable.sizeAbove (SetTable.grown (L.length + 1)) - 1 = M → MaskOk M → SetTable.sizeAbove (SetTable.grown (L.length + 1)) ≤ 128 → (L.length + 1) * 5 < M * 3 →
            wpAny (model P w) A (setRelay a (SetTable.grown (L.length + 1))) (fun _ s' => wpAny (model P w) A (pure true) Q E s') E { s with heap := h1 } := fun M c1 c2 c3 c4 => by
          refine relayN (s := { s with heap := h1 }) ho1 ⟨hex.1, hex.2.1, hex.2.2⟩ rfl hin hsz1 T2.dm (by rw [hes, m2]; rcases cases2 with ⟨e, e2⟩ | ⟨e, e2⟩ <;> omega) nd1 tup1 (by rw [hlen]; exact hfew) c1 c2 c3 (by rw [hlen]; exact c4) ?_
          intro h2 L2 es2 ep2 t3 sb2 R2 pm2
          exact wpAny_pure (hQ true h2 L2 es2 ep2 t3 (sb.trans sb2) R2 (fun z => absurd z hm) fun _ => pm2.trans pm)
        rw [hsl]
        refine wp_if_pos (by simp [hf]) (wpAny_bind ?_)
        rcases cases2 with ⟨_, e2⟩ | ⟨_, e2⟩
        · exact go 31 (by rw [e2, size_20]) (.inr (.inl rfl)) (by rw [e2, size_20]; decide) (by omega)
        · exact go 127 (by rw [e2, size_76]) (.inr (.inr rfl)) (by rw [e2, size_76]; decide) (by omega)
      · refine wp_if_neg (by simp [hf]) ?_
        refine wpAny_pure (hQ true h1 L1 es1 (ep + 1) t2 sb ⟨⟨_, ho1, ⟨hex.1, hex.2.1, hex.2.2⟩, rfl⟩, hin, T2, nd1, tup1, ?_, by rw [hlen]; exact hfew⟩ (fun z => absurd z hm) fun _ => pm)
        have h := hf
        unfold SetTable.tooFull at h
        rw [decide_eq_true_eq, f2] at h
        rw [hlen]
        omega
    by_cases hpl : t1.plain = true
    · refine wp_if_pos hpl (wpAny_bind ?_)
      obtain ⟨b, hb⟩ := hashAns_key (P := P) (w := w) k _ 8 s hx.1
      refine hb A E _ ?_
      cases b
      · exact fin { t1 with plain := false } ⟨q3.ris, q3.dm, q3.sz, q3.mok, q3.bd, q3.reach⟩ q4 q9
      · exact fin t1 q3 q4 q9
    · refine wp_if_neg hpl (wpAny_bind (wpAny_pure ?_))
      exact fin t1 q3 q4 q9
end
end MP
set_option Elab.async false
set_option autoImplicit false
set_option linter.all false
set_option maxRecDepth 100000
namespace MP
open PySem PySem.Spec PyProof.Rows L2
/-- what the set has got from the first i items -/
structure GotN (ks : List (Addr × NestedKey)) (i : Nat) (L : List (Addr × NestedKey)) : Prop where
  sub : ∀ p ∈ L, p ∈ ks.take i
  all : ∀ p ∈ ks.take i, p.2 ∈ L.map (·.2)
  len : L.length ≤ i
theorem GotN.zero (ks : List (Addr × NestedKey)) : GotN ks 0 [] := ⟨fun p h => (by cases h), fun p h => (by simp at h), Nat.le_refl _⟩
theorem GotN.same {ks L : List (Addr × NestedKey)} {i : Nat} {x : Addr × NestedKey} (g : GotN ks i L) (h : ks[i]? = some x) (hm : x.2 ∈ L.map (·.2)) : GotN ks (i + 1) L := by
  refine ⟨fun p hp => ?_, fun p hp => ?_, Nat.le_succ_of_le g.len⟩
  · rw [take_next h]
    exact List.mem_append_left _ (g.sub p hp)
  · rw [take_next h] at hp
    rcases List.mem_append.mp hp with z | z
    · exact g.all p z
    · rw [List.mem_singleton.mp z]; exact hm
theorem GotN.more {ks L L' : List (Addr × NestedKey)} {i : Nat} {x : Addr × NestedKey} (g : GotN ks i L) (h : ks[i]? = some x) (pm : L'.Perm (x :: L)) : GotN ks (i + 1) L' := by
  refine ⟨fun p hp => ?_, fun p hp => ?_, ?_⟩
  · rw [take_next h]
    rcases List.mem_cons.mp (pm.mem_iff.mp hp) with e | z
    · rw [e]; exact List.mem_append_right _ (List.mem_singleton.mpr rfl)
    · exact List.mem_append_left _ (g.sub p z)
  · rw [(pm.map (·.2)).mem_iff, List.map_cons]
    rw [take_next h] at hp
    rcases List.mem_append.mp hp with z | z
    · exact List.mem_cons_of_mem _ (g.all p z)
    · rw [List.mem_singleton.mp z]; exact List.mem_cons_self
  · rw [pm.length_eq, List.length_cons]
    exact Nat.succ_le_succ g.len

section
variable {P : Program} {w : World} {A : Around} {E : Value → Shared → Prop} {s : Shared}
theorem isN_keep {h h' : Heap} {k : NestedKey} {b : Addr} (x : IsN h k b) (hk : ∀ c o, h.get? c = some o → h'.get? c = some o) : IsN h' k b :=
  ⟨NestedIs.at (fun c oc vs n h1 _ => hk c oc h1) k _ x.1, x.2⟩
theorem SetN.keep {h h' : Heap} {a : Addr} {L : List (Addr × NestedKey)} {es : Array (Int × Value)} {ep : Nat} {t : SetTable} (R : SetN w h a L es ep t) (ha : ∀ o, h.get? a = some o → h'.get? a = some o) (ht : ∀ p ∈ L, IsN h' p.2 p.1) : SetN w h' a L es ep t := by
  obtain ⟨o, ho, r⟩ := R.ob
  exact ⟨⟨o, ha o ho, r⟩, R.rows, R.tab, R.nd, ht, R.room, R.few⟩
/-- a new set -/
theorem setN_fresh {h : Heap} {a : Addr} (ho : h.get? a = some { cls := .type "set", dict := none, data := .set #[] 0 (.fresh 0 0 (!w.params.followText "set-order")) }) : SetN w h a [] #[] 0 (.fresh 0 0 (!w.params.followText "set-order")) where
  ob := ⟨_, ho, ⟨rfl, rfl, rfl⟩, rfl⟩
  rows := rfl
  tab := ⟨List.Pairwise.nil, rfl, rfl, .inl rfl, fun x hx => (by cases hx), fun i h j hi => (by simp at hi)⟩
  nd := List.nodup_nil
  tup := fun p hp => (by cases hp)
  room := by
    show 0 * 5 < 7 * 3
    decide
  few := by
    show 0 < 64
    decide

/-- set.update's loop -/
theorem set_updateN {I : Addr} {fp wr : List Addr} {G : Array GenState → Array GenState → Prop} {n : Nat} {Pv : Nat → Value → Prop} {St : Nat → Shared → Prop} {R : Result → Shared → Prop}
    (W : WalksS P w A.in1 I fp wr G n Pv St) (S : Addr) (hSf : S ∉ fp) (ks : List (Addr × NestedKey)) (hn : n = ks.length) (hfew : ks.length < 64) (hval : ∀ i v, Pv i v → ∃ p, ks[i]? = some p ∧ v = .ref p.1)
    (h0 : Heap) (hk : ∀ p ∈ ks, IsN h0 p.2 p.1) (hS0 : h0.get? S = none) (hw0 : ∀ b ∈ wr, h0.get? b = none) (hu : A.in1.units + 8 < cLine) :
    ∀ (k i : Nat) (s : Shared), n - i = k → i ≤ n → St i s → (∀ b o, h0.get? b = some o → s.heap.get? b = some o) → (∃ L es ep t, SetN w s.heap S L es ep t ∧ GotN ks i L) →
      (∀ s' L es ep t, Moved (S :: wr) G s s' → SetN w s'.heap S L es ep t → GotN ks n L → (∀ b o, h0.get? b = some o → s'.heap.get? b = some o) → R (.ok (.ret .none)) s') →
      codeAny (model P w) A (.builtin "set.update.loop" ⟨[.ref S, .ref I], []⟩) R s := by
  have hSw : S ∉ wr := fun h => hSf (W.sub _ h)
  have hsub : ∀ b ∈ wr, b ∈ S :: wr := fun b hb => List.mem_cons_of_mem _ hb
  have keepM : ∀ {s s' : Shared}, Moved wr G s s' → (∀ b o, h0.get? b = some o → s.heap.get? b = some o) → ∀ b o, h0.get? b = some o → s'.heap.get? b = some o := fun hm hkp b o e =>
    hm.heap b o (fun hb => by rw [hw0 b hb] at e; cases e) (hkp b o e)
  intro k
  induction k with
  | zero =>
    intro i s hk' hi hst hkp ⟨L, es, ep, t, hS, g⟩ hR
    have hin : i = n := by omega
    subst hin
    refine codeAny_builtin F.entry_set_update_loop ?_
    rw [Around.under_plainId F.plain_set_update_loop _]
    show wpAny _ A.in1 (pyNext (.ref I) >>= _) _ _ s
    refine wpAny_bind (W.done s _ _ hst fun s' hm => ?_)
    show wpAny _ A.in1 (ret Value.none) _ _ s'
    have hkp' := keepM hm hkp
    have sub : ∀ p ∈ L, p ∈ ks := fun p hp => List.mem_of_mem_take (g.sub p hp)
    exact wpAny_pure (hR s' L es ep t (hm.mono hsub) (hS.keep (fun o e => hm.heap S o hSw e) fun p hp => isN_keep (hk p (sub p hp)) hkp') g hkp')
  | succ k ih =>
    intro i s hk' hi hst hkp ⟨L, es, ep, t, hS, g⟩ hR
    have hlt : i < n := by omega
    refine codeAny_builtin F.entry_set_update_loop ?_
    rw [Around.under_plainId F.plain_set_update_loop _]
    show wpAny _ A.in1 (pyNext (.ref I) >>= _) _ _ s
    refine wpAny_bind (W.item i s _ _ hlt hst fun v s' hP hst' hm => ?_)
    obtain ⟨p, hp, rfl⟩ := hval i v hP
    have hkp' := keepM hm hkp
    have sub : ∀ p ∈ L, p ∈ ks := fun p hp => List.mem_of_mem_take (g.sub p hp)
    have hS' : SetN w s'.heap S L es ep t := hS.keep (fun o e => hm.heap S o hSw e) fun q hq => isN_keep (hk q (sub q hq)) hkp'
    have hx : IsN s'.heap p.2 p.1 := isN_keep (hk p (List.mem_of_getElem? hp)) hkp'
    show wpAny _ A.in1 (holding [Value.ref p.1] (setAdd S (.ref p.1)) >>= _) _ _ s'
    refine wpAny_bind (wpAny_holding ?_)
    unfold setAdd
    refine wpAny_holding ?_
    refine wpAny_bind (pyHash_key p.2 _ _ _ _ hx.1 (by have := hx.2; omega) ?_)
    refine addN (s := { s' with toks := s'.toks + p.2.draws }) hS' hx hu (by have := g.len; omega) fun b h' L' es' ep' t' hsb hS2 c1 c2 => ?_
    have g' : GotN ks (i + 1) L' := by
      rcases Classical.em (p.2 ∈ L.map (·.2)) with c | c
      · rw [c1 c]; exact g.same hp c
      · exact g.more hp (c2 c)
    have hkp2 : ∀ b o, h0.get? b = some o → h'.get? b = some o := fun b o e => (hsb.2 b (fun z => by rw [z, hS0] at e; cases e)).trans (hkp' b o e)
    refine wpAny_pure ⟨plainId_quiet F.plain_set_update_loop _, ih (i + 1) _ (by omega) hlt (W.frame _ s' _ _ hst' (Nat.le_add_right _ _) fun b hb o e => ?_) hkp2 ⟨L', es', ep', t', hS2, g'⟩ fun s'' L2 es2 ep2 t2 hm'' hS'' g'' hkp'' => ?_⟩
    · rw [hsb.2 b (fun h : b = S => hSf (by rw [← h]; exact hb))]; exact e
    · refine hR s'' L2 es2 ep2 t2 (Moved.trans W.gtrans ((hm.mono hsub).then_heap (Nat.le_add_right _ _) fun b o hb e => ?_) hm'') hS'' g'' hkp''
      rw [hsb.2 b (fun h : b = S => hb (by rw [h]; exact List.mem_cons_self))]; exact e

set_option maxRecDepth 100000 in
set_option maxHeartbeats 3200000 in
/-- set(xs) -/
theorem call_setN_list {l : Addr} {items : Array Value} (ks : List (Addr × NestedKey)) {Q : Value → Shared → Prop} (hh : A.handled = none) (hl : s.heap.IsList l items) (hit : items.toList = ks.map fun p => Value.ref p.1)
    (hk : ∀ p ∈ ks, IsN s.heap p.2 p.1) (hfew : ks.length < 64) (hu : A.units + 11 < cLine)
    (h : ∀ (h' : Heap) (tk : Nat) L es ep t, SetN w h' s.heap.objs.size L es ep t → GotN ks ks.length L → (∀ b o, s.heap.get? b = some o → h'.get? b = some o) → Q (.ref s.heap.objs.size) { s with heap := h', toks := tk }) :
    wpAny (model P w) A (call (.type "set") [.ref l]) Q E s := by
  have hisz : items.size = ks.length := by
    have q := congrArg List.length hit
    rw [Array.length_toList, List.length_map] at q
    exact q
  obtain ⟨c, tl, hmro⟩ := F.called_set.mro
  have hmade := F.called_set.made
  have hsub := F.called_set.sub
  refine wpAny_call (codeAny_of_tree ?_)
  show wpAny _ _ (callAny (.type "set") _) _ _ _
  refine wpAny_pure ⟨Code.quiet_builtin _ (by decide +kernel), codeAny_builtin F.entry_type_call ?_⟩
  rw [Around.under_plain (weight_type_call_type "set" [.ref l] []) rfl]
  have h1 := F.called_set.notType
  have h2 := F.called_set.canCreate
  have hct := F.typeCall_set_1 (.ref l)
  repeat (any_goals (first | assumption | wp_step))

  refine codeAny_mono (code_set_led1 (.ref l) (E := E) (Q₁ := fun obj s₁ => obj = .ref s.heap.objs.size ∧ s₁ = { s with heap := s.heap.push { cls := .type "set", dict := none, data := .set #[] 0 (.fresh 0 0 (!w.params.followText "set-order")) } }) ⟨rfl, rfl⟩) fun r s₁ hr => ?_
  cases r with
  | error e => exact hr
  | ok fl =>
    cases fl with
    | ret obj =>
      obtain ⟨rfl, rfl⟩ := hr
      have hS : (s.heap.push { cls := .type "set", dict := none, data := .set #[] 0 (.fresh 0 0 (!w.params.followText "set-order")) }).get? s.heap.objs.size = some { cls := .type "set", dict := none, data := .set #[] 0 (.fresh 0 0 (!w.params.followText "set-order")) } := Heap.get?_push_size _ rfl
      have hT : Shared.TypeIs { s with heap := s.heap.push { cls := .type "set", dict := none, data := .set #[] 0 (.fresh 0 0 (!w.params.followText "set-order")) } } (.ref s.heap.objs.size) "set" := ⟨_, hS, rfl⟩
      have hli := F.called_set.init.lookup
      have hbi := F.called_set.init.bind (.ref s.heap.objs.size)
      repeat (any_goals (first | assumption | wp_step))

      refine codeAny_mono (codeAny_call_builtin (R := wants (fun r s₂ => r = .none ∧ ∃ h' tk L es ep t, s₂ = { s with heap := h', toks := tk } ∧ SetN w h' s.heap.objs.size L es ep t ∧ GotN ks ks.length L ∧
          (∀ b o, s.heap.get? b = some o → h'.get? b = some o)) E) F.called_set.init.plain F.entry_set_init (check_set_init_1 hT ?_)) fun r₂ s₂ hr₂ => ?_
      · obtain ⟨ol, hol, hcl, nl, hdl⟩ := hl
        obtain ⟨ocls, odict, odata, oslots⟩ := ol
        simp only at hcl hdl
        subst hcl; subst hdl
        have hol' : (s.heap.push { cls := .type "set", dict := none, data := .set #[] 0 (.fresh 0 0 (!w.params.followText "set-order")) }).get? l = some { cls := .type "list", dict := odict, data := .seq items nl, slots := oslots } := Heap.get?_push_of_some _ hol
        have hsls := F.sub_list_set
        have hslf := F.sub_list_frozenset
        have hne : (Value.type "list" == Value.type "dict") = false := by decide
        have hl1 : (s.heap.push { cls := .type "set", dict := none, data := .set #[] 0 (.fresh 0 0 (!w.params.followText "set-order")) }).IsList l items := ⟨_, hol', rfl, nl, rfl⟩
        unfold Builtin.«set.__init__» noKeywords Builtin.Frozenset.updateFrom
        generalize hPI : pyIter = PI
        wp_walk
        subst hPI

        refine wpAny_pyIter_list hl1 ?_
        refine wpAny_bind (wpAny_runValue ?_)
        have hlS : l < s.heap.objs.size := Heap.lt_size hol
        have hh3 : A.in1.in1.in1.handled = none := by simp [hh]
        have hz1 : (s.heap.push { cls := .type "set", dict := none, data := .set #[] 0 (.fresh 0 0 (!w.params.followText "set-order")) }).objs.size = s.heap.objs.size + 1 := Heap.size_push ..
        have hneI : l ≠ (s.heap.push { cls := .type "set", dict := none, data := .set #[] 0 (.fresh 0 0 (!w.params.followText "set-order")) }).objs.size := by
          rw [Heap.size_push]; exact Nat.ne_of_lt (Nat.lt_succ_of_lt hlS)
        have hSf : s.heap.objs.size ∉ [(s.heap.push { cls := .type "set", dict := none, data := .set #[] 0 (.fresh 0 0 (!w.params.followText "set-order")) }).objs.size, l] := by
          rw [Heap.size_push]; simp only [List.mem_cons, List.mem_singleton, List.not_mem_nil, or_false, not_or]
          exact ⟨Nat.ne_of_lt (Nat.lt_succ_self _), Nat.ne_of_gt hlS⟩
        have hval : ∀ (i : Nat) (v : Value), items[i]? = some v → ∃ p, ks[i]? = some p ∧ v = .ref p.1 := fun i v hv => by
          have q : items.toList[i]? = some v := by rw [Array.getElem?_toList]; exact hv
          rw [hit, List.getElem?_map] at q
          cases hq : ks[i]? with
          | none => rw [hq] at q; cases q
          | some p =>
            rw [hq] at q
            exact ⟨p, rfl, (Option.some.inj q).symm⟩
        have none_of : ∀ b, s.heap.objs.size ≤ b → s.heap.get? b = none := fun b hb => by
          cases q : s.heap.get? b with
          | none => rfl
          | some o => exact absurd (Nat.lt_of_lt_of_le (Heap.lt_size q) hb) (Nat.lt_irrefl _)
        refine set_updateN ((Walks.list hh3 _ l hneI items).toS) s.heap.objs.size
          hSf ks hisz hfew hval s.heap hk (none_of _ (Nat.le_refl _)) (fun b hb => none_of b (by
            rw [List.mem_singleton.mp hb, Heap.size_push]
            exact Nat.le_succ _)) (by show A.units + 3 + 8 < cLine; omega) (items.size - 0) 0 _ (by omega) (Nat.zero_le _)
          ⟨⟨_, Heap.get?_push_size _ rfl, rfl, rfl⟩, (hl1.push _)⟩ (fun b o e => Heap.get?_push_of_some _ (Heap.get?_push_of_some _ e)) ?hS0 ?hR
        case hS0 =>
          have hget : ((s.heap.push { cls := .type "set", dict := none, data := .set #[] 0 (.fresh 0 0 (!w.params.followText "set-order")) }).push { cls := .type "list_iterator", data := .fields #[.ref l, .int 0 0] }).get? s.heap.objs.size
              = some { cls := .type "set", dict := none, data := .set #[] 0 (.fresh 0 0 (!w.params.followText "set-order")) } := Heap.get?_push_of_some _ hS
          exact ⟨[], #[], 0, _, setN_fresh hget, GotN.zero ks⟩
        case hR =>
          intro s' L es ep t hm hS' g' hkp
          obtain ⟨h', g2, d', tk', os'⟩ := s'
          have eg : g2 = s.gens := hm.gens
          have ed : d' = s.drawn := hm.drawn
          have eo : os' = s.os := hm.os
          subst eg; subst ed; subst eo
          show wpAny _ _ _ _ _ _
          refine wpAny_pure ?_
          show wpAny _ _ (ret Value.none) _ _ _
          rw [hisz] at g'
          exact wpAny_pure ⟨rfl, h', tk', L, es, ep, t, rfl, hS', g', hkp⟩

      · cases r₂ with
        | error e => exact hr₂
        | ok fl₂ =>
          cases fl₂ with
          | ret r =>
            obtain ⟨rfl, h', tk, L, es, ep, t, rfl, hS', g', hk'⟩ := hr₂
            repeat (any_goals (first | assumption | wp_step))
            exact h _ _ _ _ _ _ hS' g' hk'
          | _ => exact hr₂.elim
    | _ => exact hr.elim
set_option maxRecDepth 100000 in
set_option maxHeartbeats 3200000 in
/-- set(xs) -/
theorem call_setN_tuple {l : Addr} {items : Array Value} (ks : List (Addr × NestedKey)) {Q : Value → Shared → Prop} (hh : A.handled = none) (hl : s.heap.IsTuple l items) (hit : items.toList = ks.map fun p => Value.ref p.1)
    (hk : ∀ p ∈ ks, IsN s.heap p.2 p.1) (hfew : ks.length < 64) (hu : A.units + 11 < cLine)
    (h : ∀ (h' : Heap) (tk : Nat) L es ep t, SetN w h' s.heap.objs.size L es ep t → GotN ks ks.length L → (∀ b o, s.heap.get? b = some o → h'.get? b = some o) → Q (.ref s.heap.objs.size) { s with heap := h', toks := tk }) :
    wpAny (model P w) A (call (.type "set") [.ref l]) Q E s := by
  have hisz : items.size = ks.length := by
    have q := congrArg List.length hit
    rw [Array.length_toList, List.length_map] at q
    exact q
  obtain ⟨c, tl, hmro⟩ := F.called_set.mro
  have hmade := F.called_set.made
  have hsub := F.called_set.sub
  refine wpAny_call (codeAny_of_tree ?_)
  show wpAny _ _ (callAny (.type "set") _) _ _ _
  refine wpAny_pure ⟨Code.quiet_builtin _ (by decide +kernel), codeAny_builtin F.entry_type_call ?_⟩
  rw [Around.under_plain (weight_type_call_type "set" [.ref l] []) rfl]
  have h1 := F.called_set.notType
  have h2 := F.called_set.canCreate
  have hct := F.typeCall_set_1 (.ref l)
  repeat (any_goals (first | assumption | wp_step))

  refine codeAny_mono (code_set_led1 (.ref l) (E := E) (Q₁ := fun obj s₁ => obj = .ref s.heap.objs.size ∧ s₁ = { s with heap := s.heap.push { cls := .type "set", dict := none, data := .set #[] 0 (.fresh 0 0 (!w.params.followText "set-order")) } }) ⟨rfl, rfl⟩) fun r s₁ hr => ?_
  cases r with
  | error e => exact hr
  | ok fl =>
    cases fl with
    | ret obj =>
      obtain ⟨rfl, rfl⟩ := hr
      have hS : (s.heap.push { cls := .type "set", dict := none, data := .set #[] 0 (.fresh 0 0 (!w.params.followText "set-order")) }).get? s.heap.objs.size = some { cls := .type "set", dict := none, data := .set #[] 0 (.fresh 0 0 (!w.params.followText "set-order")) } := Heap.get?_push_size _ rfl
      have hT : Shared.TypeIs { s with heap := s.heap.push { cls := .type "set", dict := none, data := .set #[] 0 (.fresh 0 0 (!w.params.followText "set-order")) } } (.ref s.heap.objs.size) "set" := ⟨_, hS, rfl⟩
      have hli := F.called_set.init.lookup
      have hbi := F.called_set.init.bind (.ref s.heap.objs.size)
      repeat (any_goals (first | assumption | wp_step))

      refine codeAny_mono (codeAny_call_builtin (R := wants (fun r s₂ => r = .none ∧ ∃ h' tk L es ep t, s₂ = { s with heap := h', toks := tk } ∧ SetN w h' s.heap.objs.size L es ep t ∧ GotN ks ks.length L ∧
          (∀ b o, s.heap.get? b = some o → h'.get? b = some o)) E) F.called_set.init.plain F.entry_set_init (check_set_init_1 hT ?_)) fun r₂ s₂ hr₂ => ?_
      · obtain ⟨ol, hol, hcl, nl, hdl⟩ := hl
        obtain ⟨ocls, odict, odata, oslots⟩ := ol
        simp only at hcl hdl
        subst hcl; subst hdl
        have hol' : (s.heap.push { cls := .type "set", dict := none, data := .set #[] 0 (.fresh 0 0 (!w.params.followText "set-order")) }).get? l = some { cls := .type "tuple", dict := odict, data := .seq items nl, slots := oslots } := Heap.get?_push_of_some _ hol
        have hsls := F.sub_tuple_set
        have hslf := F.sub_tuple_frozenset
        have hne : (Value.type "tuple" == Value.type "dict") = false := by decide
        have hl1 : (s.heap.push { cls := .type "set", dict := none, data := .set #[] 0 (.fresh 0 0 (!w.params.followText "set-order")) }).IsTuple l items := ⟨_, hol', rfl, nl, rfl⟩
        unfold Builtin.«set.__init__» noKeywords Builtin.Frozenset.updateFrom
        generalize hPI : pyIter = PI
        wp_walk
        subst hPI

        refine wpAny_pyIter_tuple hl1 ?_
        refine wpAny_bind (wpAny_runValue ?_)
        have hlS : l < s.heap.objs.size := Heap.lt_size hol
        have hh3 : A.in1.in1.in1.handled = none := by simp [hh]
        have hz1 : (s.heap.push { cls := .type "set", dict := none, data := .set #[] 0 (.fresh 0 0 (!w.params.followText "set-order")) }).objs.size = s.heap.objs.size + 1 := Heap.size_push ..
        have hneI : l ≠ (s.heap.push { cls := .type "set", dict := none, data := .set #[] 0 (.fresh 0 0 (!w.params.followText "set-order")) }).objs.size := by
          rw [Heap.size_push]; exact Nat.ne_of_lt (Nat.lt_succ_of_lt hlS)
        have hSf : s.heap.objs.size ∉ [(s.heap.push { cls := .type "set", dict := none, data := .set #[] 0 (.fresh 0 0 (!w.params.followText "set-order")) }).objs.size, l] := by
          rw [Heap.size_push]; simp only [List.mem_cons, List.mem_singleton, List.not_mem_nil, or_false, not_or]
          exact ⟨Nat.ne_of_lt (Nat.lt_succ_self _), Nat.ne_of_gt hlS⟩
        have hval : ∀ (i : Nat) (v : Value), items[i]? = some v → ∃ p, ks[i]? = some p ∧ v = .ref p.1 := fun i v hv => by
          have q : items.toList[i]? = some v := by rw [Array.getElem?_toList]; exact hv
          rw [hit, List.getElem?_map] at q
          cases hq : ks[i]? with
          | none => rw [hq] at q; cases q
          | some p =>
            rw [hq] at q
            exact ⟨p, rfl, (Option.some.inj q).symm⟩
        have none_of : ∀ b, s.heap.objs.size ≤ b → s.heap.get? b = none := fun b hb => by
          cases q : s.heap.get? b with
          | none => rfl
          | some o => exact absurd (Nat.lt_of_lt_of_le (Heap.lt_size q) hb) (Nat.lt_irrefl _)
        refine set_updateN ((Walks.tuple hh3 _ l hneI items).toS) s.heap.objs.size
          hSf ks hisz hfew hval s.heap hk (none_of _ (Nat.le_refl _)) (fun b hb => none_of b (by
            rw [List.mem_singleton.mp hb, Heap.size_push]
            exact Nat.le_succ _)) (by show A.units + 3 + 8 < cLine; omega) (items.size - 0) 0 _ (by omega) (Nat.zero_le _)
          ⟨⟨_, Heap.get?_push_size _ rfl, rfl, rfl⟩, (hl1.push _)⟩ (fun b o e => Heap.get?_push_of_some _ (Heap.get?_push_of_some _ e)) ?hS0 ?hR
        case hS0 =>
          have hget : ((s.heap.push { cls := .type "set", dict := none, data := .set #[] 0 (.fresh 0 0 (!w.params.followText "set-order")) }).push { cls := .type "tuple_iterator", data := .fields #[.ref l, .int 0 0] }).get? s.heap.objs.size
              = some { cls := .type "set", dict := none, data := .set #[] 0 (.fresh 0 0 (!w.params.followText "set-order")) } := Heap.get?_push_of_some _ hS
          exact ⟨[], #[], 0, _, setN_fresh hget, GotN.zero ks⟩
        case hR =>
          intro s' L es ep t hm hS' g' hkp
          obtain ⟨h', g2, d', tk', os'⟩ := s'
          have eg : g2 = s.gens := hm.gens
          have ed : d' = s.drawn := hm.drawn
          have eo : os' = s.os := hm.os
          subst eg; subst ed; subst eo
          show wpAny _ _ _ _ _ _
          refine wpAny_pure ?_
          show wpAny _ _ (ret Value.none) _ _ _
          rw [hisz] at g'
          exact wpAny_pure ⟨rfl, h', tk', L, es, ep, t, rfl, hS', g', hkp⟩

      · cases r₂ with
        | error e => exact hr₂
        | ok fl₂ =>
          cases fl₂ with
          | ret r =>
            obtain ⟨rfl, h', tk, L, es, ep, t, rfl, hS', g', hk'⟩ := hr₂
            repeat (any_goals (first | assumption | wp_step))
            exact h _ _ _ _ _ _ hS' g' hk'
          | _ => exact hr₂.elim
    | _ => exact hr.elim
end
end MP
set_option Elab.async false
set_option autoImplicit false
set_option linter.all false
set_option maxRecDepth 100000
namespace MP
open PySem PySem.Spec PyProof.Rows L2
section
variable {X : Cx} {pins : List (Addr × Obj)} {σ : L2.St} {H : Hp} {s : Shared}
mutual
theorem nested_of (I : Inv X pins σ H s) : ∀ (k : NestedKey) (w : W) (v : V) (u : Value), KeyW w k → RV X.K H v w → RelV v u → NestedIs s.heap k u
  | .none, _, _, u, h, r, q => by
    cases h; cases r
    have e : u = Value.none := q
    subst e
    exact .none
  | .num i, _, _, u, h, r, q => by
    cases h with
    | bl b =>
      cases r
      have e : u = Value.bool b := q
      subst e
      exact .bool rfl
    | int _ =>
      cases r
      obtain ⟨t, e⟩ : ∃ t, u = Value.int i t := q
      subst e
      exact .int i t
  | .text x, _, _, u, h, r, q => by
    cases h; cases r
    obtain ⟨t, e⟩ : ∃ t, u = Value.str x t := q
    subst e
    exact .text x t
  | .tup ks, _, _, u, h, r, q => by
    cases h with
    | @tup ws _ hk =>
      cases r with
      | tup hs hr =>
        have e : u = Value.ref _ := q
        subst e
        obtain ⟨its, r', ⟨o, ho, hc, n, hd⟩, _⟩ := I.tuple (sqT_of hs)
        exact .tup ho hc hd (by simpa using nesteds_of I ks _ _ its hk hr r')
theorem nesteds_of (I : Inv X pins σ H s) : ∀ (ks : List NestedKey) (ws : List W) (vs : List V) (us : List Value), KeysW ws ks → RVs X.K H vs ws → Vals vs us → NestedAll s.heap ks us
  | [], _, _, _, h, r, q => by
    cases h; cases r; cases q
    exact .nil
  | k :: ks, _, _, _, h, r, q => by
    cases h with
    | cons h1 h2 =>
      cases r with
      | cons r1 r2 =>
        cases q with
        | cons q1 q2 => exact .cons (nested_of I k _ _ _ h1 r1 q1) (nesteds_of I ks _ _ _ h2 r2 q2)
end
theorem keyed_of (I : Inv X pins σ H s) : ∀ (ks : List NestedKey) (ws : List W) (vs : List V) (us : List Value), KeysW ws ks → RVs X.K H vs ws → Vals vs us → (∀ w ∈ ws, ∃ us, w = .tup us) → (∀ k ∈ ks, k.depth ≤ 8) →
    ∃ kz : List (Addr × NestedKey), us = kz.map (fun p => Value.ref p.1) ∧ kz.map (·.2) = ks ∧ ∀ p ∈ kz, IsN s.heap p.2 p.1
  | [], _, _, _, h, r, q, _, _ => by
    cases h; cases r; cases q
    exact ⟨[], rfl, rfl, fun p hp => nomatch hp⟩
  | k :: ks, _, _, _, h, r, q, ht, hd => by
    cases h with
    | cons h1 h2 =>
      cases r with
      | cons r1 r2 =>
        cases q with
        | @cons v u vs us q1 q2 =>
          obtain ⟨kz, e1, e2, hz⟩ := keyed_of I ks _ _ _ h2 r2 q2 (fun w hw => ht w (List.mem_cons_of_mem _ hw)) fun k hk => hd k (List.mem_cons_of_mem _ hk)
          have hn := nested_of I k _ _ _ h1 r1 q1
          obtain ⟨ws', e⟩ := ht _ List.mem_cons_self
          subst e
          cases r1 with
          | @tup a _ _ hs hr =>
            have e : u = Value.ref a := q1
            subst e
            refine ⟨(a, k) :: kz, by rw [e1]; rfl, by rw [List.map_cons, e2], fun p hp => ?_⟩
            rcases List.mem_cons.mp hp with e | hp
            · rw [e]; exact ⟨hn, hd k List.mem_cons_self⟩
            · exact hz p hp
theorem GotN.mem {kz L : List (Addr × NestedKey)} {ks : List NestedKey} (g : GotN kz kz.length L) (e : kz.map (·.2) = ks) : ∀ k, k ∈ L.map (·.2) ↔ k ∈ ks := fun k => by
  subst e
  constructor
  · intro h
    obtain ⟨p, hp, rfl⟩ := List.mem_map.mp h
    exact List.mem_map.mpr ⟨p, List.mem_of_mem_take (g.sub p hp), rfl⟩
  · intro h
    obtain ⟨p, hp, rfl⟩ := List.mem_map.mp h
    exact g.all p (by rw [List.take_length]; exact hp)
end
section
variable {P : Program} {w : World} {K : PySem.W.Frag} {mg : Str → Option Value} {base : Heap} {k : Nat}
/-- len(set(xs)) -/
theorem lenSet_ok (hm : ∀ x ∈ stdNames, mg x = none) : SpcOk P w K mg base k spLenSet := by
  intro X B Wx e es t hgl hlook ha
  have hlook' : lookLenSet e = some es := hlook
  unfold lookLenSet at hlook'
  split at hlook'
  · rename_i x p y p2 a q pos
    split at hlook'
    · rename_i hc
      obtain ⟨rfl, rfl, hns⟩ := hc
      cases hlook'
      have hm' : ∀ x ∈ stdNames, X.mg x = none := by rw [B.mg]; exact hm
      have hu := B.room.units
      refine ⟨fun pins s σ H Q I h => ?_⟩
      obtain ⟨ρ, μ, Qm, Em, rs, rm, h, hq, he⟩ := h
      refine Call_ (ld_blt I (hgl _ (by simp [spLenSet])) (hm' _ (by decide)) PySem.boot_len ?_)
      refine PyProof.Rows.callWith_builtin1 (PyProof.Rows.args_cons ?_ rfl) rfl rfl
      refine Call_ (ld_blt I (hgl _ (by simp [spLenSet])) (hm' _ (by decide)) PyProof.Rows.boot_set ?_)
      refine PyProof.Rows.callWith_type1 (thn (ha.run q pins s σ H (fun vs H1 => ∃ ws μ1, Gr X.K μ H μ1 H1 ∧ RVs X.K H1 vs ws ∧ RM X.K H1 μ1 ∧ oLenSet ws μ1 Qm) I ⟨ρ, μ, _, Em, rs, rm, h, fun vs H1 ws μ1 g1 r1 m1 q1 => ⟨ws, μ1, g1, r1, m1, q1⟩, he⟩) fun us s1 z => ?_) (ns_head hns) (ns_any rfl)
      obtain ⟨vs, H1, I1, rv, ws, μ1, g1, r1, m1, q1⟩ := z
      have fin : ∀ (l : Addr) (its : List Value) (xs : List W) (vs1 : List V) (ks : List NestedKey), (∀ Q', (∀ (h' : Heap) (tk : Nat) kz L es ep tt, SetN X.w h' s1.heap.objs.size L es ep tt → GotN kz kz.length L → kz.map (·.2) = ks → (∀ b o, s1.heap.get? b = some o → h'.get? b = some o) → Q' (.ref s1.heap.objs.size) { s1 with heap := h', toks := tk }) → wpAny (model X.prog X.w) X.A (call (.type "set") us) Q' X.xe s1) →
          (∀ l : List NestedKey, l.Nodup → (∀ k, k ∈ l ↔ k ∈ ks) → Qm (.int l.length) μ1) →
          wpAny (model X.prog X.w) X.A (call (Value.type "set") us) (fun v s₁ => wpAny (model X.prog X.w) X.A (spliced (backTo pos (starEach [] X.env))) (fun vs s₂ => wpAny (model X.prog X.w) X.A (call (Value.builtin "len") (v :: vs)) (EP X pins σ Q) X.xe s₂) X.xe s₁) X.xe s1 := by
        intro l its xs vs1 ks hcall hans
        refine hcall _ fun h' tk kz L es ep tt R g e hk => ?_
        refine PyProof.Rows.args_nil ?_
        obtain ⟨o, ho, hex, hd⟩ := R.ob
        have hsz := rowsN_size R.rows
        have hfew := R.few
        have hft : tt.fits es.size = true := SetN.fits (s := { s1 with heap := h', toks := tk }) R
        have I2 : Inv X pins σ H1 { s1 with heap := h', toks := tk } := I1.kept hk
        refine call_len_set ho hex hd hft (by omega) ⟨.int es.size, H1, I2.tok _, ⟨_, rfl⟩, ?_⟩
        refine hq _ _ _ _ g1 (.int _) m1 ?_
        have q := hans (L.map (·.2)) R.nd (g.mem e)
        rw [List.length_map, ← hsz] at q
        exact q
      match ws, q1 with
      | [.tup xs], q1 =>
        obtain ⟨ks, ⟨hks, ht, hdp, hf⟩, hans⟩ := q1
        obtain ⟨v, rfl, r2⟩ := r1.one
        cases r2 with
        | @tup a vs1 _ hs hr =>
          rw [Vals.ref1 rv] at fin ⊢
          obtain ⟨its, rI, hT, _⟩ := I1.tuple (sqT_of hs)
          obtain ⟨kz, e1, e2, hz⟩ := keyed_of I1 ks _ _ _ hks hr rI ht hdp
          have hT' : s1.heap.IsTuple a its.toArray := by
            obtain ⟨o, ho, hc, n, hd⟩ := hT
            exact ⟨o, ho, hc, n, hd⟩
          refine fin a its xs vs1 ks (fun Q' hQ' => ?_) hans
          refine call_setN_tuple (P := X.prog) (w := X.w) kz (I1.ok.hd B.calm) hT' (by simpa using e1) hz (by rw [← e2, List.length_map] at hf; exact hf) (by omega) fun h' tk L es ep tt R g hk => hQ' h' tk kz L es ep tt R g e2 hk
      | [.ref b], q1 =>
        obtain ⟨xs, ks, hb, ⟨hks, ht, hdp, hf⟩, hans⟩ := q1
        obtain ⟨v, rfl, r2⟩ := r1.one
        cases r2
        rw [Vals.ref1 rv] at fin ⊢
        obtain ⟨vs1, hl, hr⟩ := m1 b _ hb
        obtain ⟨its, rI, pl, _⟩ := I1.list (.inl (.inl hl))
        obtain ⟨kz, e1, e2, hz⟩ := keyed_of I1 ks _ _ _ hks hr rI ht hdp
        refine fin b its xs vs1 ks (fun Q' hQ' => ?_) hans
        refine call_setN_list (P := X.prog) (w := X.w) kz (I1.ok.hd B.calm) pl.isList (by simpa using e1) hz (by rw [← e2, List.length_map] at hf; exact hf) (by omega) fun h' tk L es ep tt R g hk => hQ' h' tk kz L es ep tt R g e2 hk
    · cases hlook'
  · cases hlook'
theorem spcs_ok {L : Lib} (hm : ∀ x ∈ stdNames, mg x = none) (e : L.spcs = stdSpcs) : ∀ k, ∀ p ∈ L.spcs, SpcOk P w K mg base k p := fun k p hp => by
  rw [e] at hp
  simp only [stdSpcs, List.mem_cons, List.not_mem_nil, or_false] at hp
  have hm0 : ∀ x ∈ stdNames0, mg x = none := fun x hx => hm x (by
    simp only [stdNames0, List.mem_cons, List.not_mem_nil, or_false] at hx
    rcases hx with rfl | rfl | rfl <;> decide)
  rcases hp with rfl | rfl | rfl
  · exact lenSet_ok hm
  · exact listRg_ok hm0
  · exact tupleRg_ok hm0
end
end MP
set_option Elab.async false
set_option autoImplicit false
set_option linter.all false
set_option maxRecDepth 100000
namespace MP
open PySem PySem.Spec PyProof.Rows L2
/-! ### the plain side: what a def's promise is asked for -/
theorem mrg_self (μ μ' : Mem) : mrg μ' μ μ = μ' := by
  funext a
  unfold mrg
  cases h : μ' a with
  | some o => rfl
  | none => cases h2 : μ a <;> rfl
/-- gives r and changes nothing -/
def Pu (S : MSp) (ws : List W) (μ : Mem) (r : W) : Prop := ∀ Q E, Q r μ → S ws μ Q E
/-- raises x() and changes nothing -/
def Rz (S : MSp) (ws : List W) (μ : Mem) (x : Str) : Prop := ∀ (Q : MQ) (E : MXK), E ⟨x, none⟩ μ → S ws μ Q E
/-- gives what R tells, of a value and a store -/
def Gv (S : MSp) (ws : List W) (μ : Mem) (R : W → Mem → Prop) : Prop := ∀ (Q : MQ) (E : MXK), (∀ x μ', R x μ' → Q x μ') → S ws μ Q E
section
variable {S : MSp} {ws : List W} {μ μ' : Mem} {r : W} {x : Str} {Q : MQ} {E : MXK} {R : W → Mem → Prop}
theorem call_pu (h : Pu S ws μ r) (q : Q r μ) : callM S ws μ Q E := ⟨μ, Sub.refl, h _ _ fun _ => by rw [mrg_self]; exact q⟩
theorem call_rz (h : Rz S ws μ x) (q : E ⟨x, none⟩ μ) : callM S ws μ Q E := ⟨μ, Sub.refl, h _ _ fun _ => by rw [mrg_self]; exact q⟩
theorem call_gv (h : Gv S ws μ R) (q : ∀ x μ', R x μ' → Q x μ') : callM S ws μ Q E := ⟨μ, Sub.refl, h _ _ fun y μ' hr _ => by rw [mrg_self]; exact q y μ' hr⟩
theorem Pu.gv (h : Pu S ws μ r) (q : R r μ) : Gv S ws μ R := fun Q E k => h Q E (k r μ q)
end
theorem Dn.sub {α : Type} {Q : α → Mem → Prop} {x : α} {μ ν : Mem} (s : Sub ν μ) (h : Q x ν) : Dn Q x μ := ⟨ν, s, h⟩

/-! ### types -/
def tysL : List String := ["NoneType", "bool", "int", "str", "tuple", "list", "dict"]
def isi (t T : String) : Bool := t == T || (t == "bool" && T == "int")
theorem kb_all : (tysL.all fun t => tysL.all fun T => kitB t T == (if T == "NoneType" then kitB t T else some (isi t T))) = true := by decide +kernel
theorem kb {t T : String} (h : t ∈ tysL) (hT : T ∈ tysL) (hn : (T == "NoneType") = false) : kitB t T = some (isi t T) := by
  have h1 := List.all_eq_true.mp (List.all_eq_true.mp kb_all t h) T hT
  rw [hn] at h1
  exact beq_iff_eq.mp h1
def tyD : PyData → String
  | .none => "NoneType"
  | .bool _ => "bool"
  | .int _ => "int"
  | .str _ => "str"
  | .tuple _ => "tuple"
  | .list _ => "list"
  | .dict _ => "dict"
theorem tyD_mem (d : PyData) : tyD d ∈ tysL := by cases d <;> simp [tyD, tysL]
theorem ty_dat {μ : Mem} {w : W} {d : PyData} (h : Dat μ w d) : tyOf μ w = some (tyD d) := by
  cases h with
  | non => rfl
  | bl b => rfl
  | int i => rfl
  | str x => rfl
  | tup h => rfl
  | lst e h => unfold tyOf; simp only [e]; rfl
  | rol e h => unfold tyOf; simp only [e]; rfl
/-- isinstance(x, T) -/
theorem o_isi {μ : Mem} {x : W} {d : PyData} {T : String} {Q : MQ} (h : Dat μ x d) (hT : T ∈ tysL) (hn : (T == "NoneType") = false) (q : Q (.bl (isi (tyD d) T)) μ) : oIsi T x μ Q := ⟨tyD d, isi (tyD d) T, ty_dat h, kb (tyD_mem d) hT hn, q⟩
mutual
/-- how many parts -/
def cnt : PyData → Nat
  | .list xs => cntL xs + 1
  | .tuple xs => cntL xs + 1
  | _ => 1
def cntL : List PyData → Nat
  | [] => 0
  | x :: xs => cnt x + cntL xs
end
theorem cnt_pos (d : PyData) : 1 ≤ cnt d := by cases d <;> simp [cnt]
theorem cntL_len : ∀ ds : List PyData, ds.length ≤ cntL ds
  | [] => Nat.le_refl _
  | d :: ds => by
    have := cntL_len ds
    have := cnt_pos d
    rw [cntL, List.length_cons]
    omega
theorem cntL_mem : ∀ {ds : List PyData} {d : PyData}, d ∈ ds → cnt d ≤ cntL ds
  | e :: ds, d, h => by
    rw [cntL]
    rcases List.mem_cons.mp h with q | q
    · subst q; omega
    · have := cntL_mem q; omega
/-- comparable, not too large -/
def fine (d : PyData) : Bool := SeqAt.shaped d && decide (cnt d ≤ 1000000)
theorem fine_sh {d : PyData} (h : fine d = true) : SeqAt.shaped d = true := by
  unfold fine at h
  rw [Bool.and_eq_true] at h
  exact h.1
theorem fine_cnt {d : PyData} (h : fine d = true) : cnt d ≤ 1000000 := by
  unfold fine at h
  rw [Bool.and_eq_true, decide_eq_true_eq] at h
  exact h.2
/-- a value that can be compared -/
def OkV (μ : Mem) (v : W) (d : PyData) : Prop := Dat μ v d ∧ fine d = true
mutual
theorem Dat.keep {μ μ' : Mem} (k : ∀ a xs, μ a = some (.lst xs) ∨ μ a = some (.rol xs) → μ' a = μ a) : ∀ {w : W} {d : PyData}, Dat μ w d → Dat μ' w d
  | _, _, .non => .non
  | _, _, .bl b => .bl b
  | _, _, .int i => .int i
  | _, _, .str x => .str x
  | _, _, .tup h => .tup (Dats.keep k h)
  | _, _, .lst e h => .lst ((k _ _ (.inl e)).trans e) (Dats.keep k h)
  | _, _, .rol e h => .rol ((k _ _ (.inr e)).trans e) (Dats.keep k h)
theorem Dats.keep {μ μ' : Mem} (k : ∀ a xs, μ a = some (.lst xs) ∨ μ a = some (.rol xs) → μ' a = μ a) : ∀ {w : List W} {d : List PyData}, Dats μ w d → Dats μ' w d
  | _, _, .nil => .nil
  | _, _, .cons h t => .cons (Dat.keep k h) (Dats.keep k t)
end
theorem OkV.keep {μ μ' : Mem} {v : W} {d : PyData} (h : OkV μ v d) (k : ∀ a xs, μ a = some (.lst xs) ∨ μ a = some (.rol xs) → μ' a = μ a) : OkV μ' v d := ⟨h.1.keep k, h.2⟩
theorem Dats.length {μ : Mem} : ∀ {ws : List W} {ds : List PyData}, Dats μ ws ds → ws.length = ds.length
  | _, _, .nil => rfl
  | _, _, .cons _ t => by rw [List.length_cons, List.length_cons, Dats.length t]
theorem Dats.get {μ : Mem} : ∀ {ws : List W} {ds : List PyData} {i : Nat} {w : W}, Dats μ ws ds → ws[i]? = some w → ∃ d, ds[i]? = some d ∧ Dat μ w d
  | _, _, _, _, .nil, e => by simp at e
  | _, _, 0, _, .cons r _, e => by simp at e; subst e; exact ⟨_, rfl, r⟩
  | _, _, i + 1, _, .cons _ t, e => by
    obtain ⟨v, h1, h2⟩ := Dats.get (i := i) t (by simpa using e)
    exact ⟨v, by simpa using h1, h2⟩
theorem Dats.mem {μ : Mem} : ∀ {ws : List W} {ds : List PyData} {w : W}, Dats μ ws ds → w ∈ ws → ∃ d, d ∈ ds ∧ Dat μ w d
  | _, _, _, .nil, e => by cases e
  | _, _, _, .cons r t, e => by
    rcases List.mem_cons.mp e with e | e
    · subst e; exact ⟨_, List.mem_cons_self, r⟩
    · obtain ⟨d, h1, h2⟩ := Dats.mem t e
      exact ⟨d, List.mem_cons_of_mem _ h1, h2⟩
theorem lay_mem : ∀ {ds : List PyData} {d : PyData}, PyData.canLayAll0 ds = true → d ∈ ds → d.canLay0 = true ∧ d.depth ≤ PyData.depthAll ds
  | e :: ds, d, h, hd => by
    unfold PyData.canLayAll0 at h
    rw [Bool.and_eq_true] at h
    unfold PyData.depthAll
    rcases List.mem_cons.mp hd with q | q
    · subst q; exact ⟨h.1, Nat.le_max_left _ _⟩
    · have := lay_mem h.2 q
      exact ⟨this.1, Nat.le_trans this.2 (Nat.le_max_right _ _)⟩
theorem shaped_tup {ds : List PyData} {d : PyData} (h : SeqAt.shaped (.tuple ds) = true) (hd : d ∈ ds) : SeqAt.shaped d = true := by
  unfold SeqAt.shaped at h ⊢
  rw [Bool.and_eq_true, decide_eq_true_eq] at h ⊢
  have h1 : PyData.canLayAll0 ds = true := h.1
  have h2 : PyData.depthAll ds + 1 ≤ 64 := h.2
  have := lay_mem h1 hd
  exact ⟨this.1, by omega⟩
theorem fine_tup {ds : List PyData} {d : PyData} (h : fine (.tuple ds) = true) (hd : d ∈ ds) : fine d = true := by
  have h1 := fine_cnt h
  have h2 : cnt d ≤ cntL ds := cntL_mem hd
  have h3 : cnt (.tuple ds) = cntL ds + 1 := rfl
  unfold fine
  rw [shaped_tup (fine_sh h) hd, Bool.true_and, decide_eq_true_eq]
  omega
theorem OkV.mem {μ : Mem} {ws : List W} {d : PyData} {w : W} (h : OkV μ (.tup ws) d) (hw : w ∈ ws) : ∃ e, OkV μ w e := by
  obtain ⟨h1, h2⟩ := h
  cases h1 with
  | tup t =>
    obtain ⟨e, he, k⟩ := t.mem hw
    exact ⟨e, k, fine_tup h2 he⟩
theorem OkV.len {μ : Mem} {ws : List W} {d : PyData} (h : OkV μ (.tup ws) d) : ws.length ≤ 1000000 := by
  obtain ⟨h1, h2⟩ := h
  cases h1 with
  | tup t =>
    have h3 := fine_cnt h2
    rw [t.length]
    have h4 := cntL_len ‹List PyData›
    have h5 : cnt (.tuple ‹List PyData›) = cntL ‹List PyData› + 1 := rfl
    omega
end MP
set_option Elab.async false
set_option autoImplicit false
set_option linter.all false
set_option maxRecDepth 100000
namespace MP
open PySem PySem.Spec PyProof.Rows L2
/-! ### the tables, row by row -/
theorem tb_bop0 : (stdBops[0]?).elim bad2 (fun x => x.2) = oAdd := rfl
theorem tb_bop1 : (stdBops[1]?).elim bad2 (fun x => x.2) = oSub := rfl
theorem tb_bop2 : (stdBops[2]?).elim bad2 (fun x => x.2) = oMul := rfl
theorem tb_bop3 : (stdBops[3]?).elim bad2 (fun x => x.2) = oFdiv := rfl
theorem tb_bop4 : (stdBops[4]?).elim bad2 (fun x => x.2) = oMod := rfl
theorem tb_bop5 : (stdBops[5]?).elim bad2 (fun x => x.2) = oPow := rfl
theorem tb_aug0 : (stdAugs[0]?).elim bad2 (fun x => x.2) = oIAdd := rfl
theorem tb_aug1 : (stdAugs[1]?).elim bad2 (fun x => x.2) = oISub := rfl
theorem tb_cop0 : (stdCops[0]?).elim bad2 (fun x => x.2) = oEq := rfl
theorem tb_cop1 : (stdCops[1]?).elim bad2 (fun x => x.2) = oNe := rfl
theorem tb_cop2 : (stdCops[2]?).elim bad2 (fun x => x.2) = oLt := rfl
theorem tb_cop3 : (stdCops[3]?).elim bad2 (fun x => x.2) = oLe := rfl
theorem tb_cop4 : (stdCops[4]?).elim bad2 (fun x => x.2) = oGt := rfl
theorem tb_cop5 : (stdCops[5]?).elim bad2 (fun x => x.2) = oGe := rfl
theorem tb_cop6 : (stdCops[6]?).elim bad2 (fun x => x.2) = oIn false := rfl
theorem tb_cop7 : (stdCops[7]?).elim bad2 (fun x => x.2) = oIn true := rfl
theorem tb_cop8 : (stdCops[8]?).elim bad2 (fun x => x.2) = oIs false := rfl
theorem tb_cop9 : (stdCops[9]?).elim bad2 (fun x => x.2) = oIs true := rfl
theorem tb_cop12 : (stdCops[12]?).elim bad2 (fun x => x.2) = oEqE := rfl
theorem tb_ix1 : (stdIxs[1]?).getD bad2 = oIxK := rfl
theorem tb_bop6 : (stdBops[6]?).elim bad2 (fun x => x.2) = oMulT := rfl
theorem tb_cop11 : (stdCops[11]?).elim bad2 (fun x => x.2) = oInT := rfl
theorem tb_set2 : (stdSets[2]?).getD (fun _ _ _ _ _ => False) = sDt := rfl
theorem tb_bc18 : (stdBcs[18]?).elim badC (fun x => x.2) = oLenT := rfl
theorem tb_cop10 : (stdCops[10]?).elim bad2 (fun x => x.2) = oLtG := rfl
theorem tb_ix0 : (stdIxs[0]?).getD bad2 = oIx := rfl
theorem tb_set0 : (stdSets[0]?).getD (fun _ _ _ _ _ => False) = sLst := rfl
theorem tb_set1 : (stdSets[1]?).getD (fun _ _ _ _ _ => False) = sDk := rfl
theorem tb_bc0 : (stdBcs[0]?).elim badC (fun x => x.2) = oLen := rfl
theorem tb_bc1 : (stdBcs[1]?).elim badC (fun x => x.2) = oAbs := rfl
theorem tb_bc2 : (stdBcs[2]?).elim badC (fun x => x.2) = oIntOf := rfl
theorem tb_bc3 : (stdBcs[3]?).elim badC (fun x => x.2) = oListOf := rfl
theorem tb_bc4 : (stdBcs[4]?).elim badC (fun x => x.2) = oTupleOf := rfl
theorem tb_bc5 : (stdBcs[5]?).elim badC (fun x => x.2) = oL fMax := rfl
theorem tb_bc6 : (stdBcs[6]?).elim badC (fun x => x.2) = oMax2 := rfl
theorem tb_bc7 : (stdBcs[7]?).elim badC (fun x => x.2) = oL fMin := rfl
theorem tb_bc8 : (stdBcs[8]?).elim badC (fun x => x.2) = oMin2 := rfl
theorem tb_bc9 : (stdBcs[9]?).elim badC (fun x => x.2) = oL fSum := rfl
theorem tb_bc10 : (stdBcs[10]?).elim badC (fun x => x.2) = oL fAll := rfl
theorem tb_bc11 : (stdBcs[11]?).elim badC (fun x => x.2) = oL fAny := rfl
theorem tb_bc12 : (stdBcs[12]?).elim badC (fun x => x.2) = oDictOf := rfl
theorem tb_bc13 : (stdBcs[13]?).elim badC (fun x => x.2) = oDictOfT := rfl
theorem tb_bc14 : (stdBcs[14]?).elim badC (fun x => x.2) = oSortL := rfl
theorem tb_bc15 : (stdBcs[15]?).elim badC (fun x => x.2) = oSortD := rfl
theorem tb_bc16 : (stdBcs[16]?).elim badC (fun x => x.2) = oSortP := rfl
theorem tb_bc17 : (stdBcs[17]?).elim badC (fun x => x.2) = oRepr := rfl
theorem tb_lf0 : stdLfs[0]? = some (("sum" : Str), fSum) := rfl
theorem tb_lf1 : stdLfs[1]? = some (("all" : Str), fAll) := rfl
theorem tb_lf2 : stdLfs[2]? = some (("any" : Str), fAny) := rfl
theorem tb_lf3 : stdLfs[3]? = some (("max" : Str), fMax) := rfl
theorem tb_lf4 : stdLfs[4]? = some (("min" : Str), fMin) := rfl
theorem tb_lf5 : stdLfs[5]? = some (("tuple" : Str), fTuple) := rfl
theorem tb_lf6 : stdLfs[6]? = some (("len" : Str), fLen) := rfl
theorem tb_bm0 : stdBms[0]? = some ⟨"list", "append", "list.append", mAppend⟩ := rfl
theorem tb_bm1 : stdBms[1]? = some ⟨"list", "extend", "list.extend", mExtend⟩ := rfl
theorem tb_bm2 : stdBms[2]? = some ⟨"list", "pop", "list.pop", mPop⟩ := rfl
theorem tb_bm3 : stdBms[3]? = some ⟨"dict", "get", "dict.get", mGet⟩ := rfl
theorem tb_bm4 : stdBms[4]? = some ⟨"dict", "setdefault", "dict.setdefault", mSetd⟩ := rfl
theorem tb_it0 : stdIts[0]? = some ⟨"range", false, 1, rg1⟩ := rfl
theorem tb_it1 : stdIts[1]? = some ⟨"range", false, 2, rg2⟩ := rfl
theorem tb_it2 : stdIts[2]? = some ⟨"zip", true, 2, rzp⟩ := rfl
theorem tb_it3 : stdIts[3]? = some ⟨"enumerate", true, 1, ren⟩ := rfl
theorem tb_it4 : stdIts[4]? = some ⟨"enumerate", true, 1, renB⟩ := rfl
theorem tb_spc1 : stdSpcs[1]? = some spListRg := rfl
theorem tb_spc2 : stdSpcs[2]? = some spTupRg := rfl
theorem tb_spc0 : stdSpcs[0]? = some spLenSet := rfl
/-! ### operators on plain values -/
theorem le_ii {i j : Int} {μ : Mem} {Q : MQ} : oLe (.int i) (.int j) μ Q = Q (.bl (decide (i ≤ j))) μ := rfl
theorem lt_ii {i j : Int} {μ : Mem} {Q : MQ} : oLt (.int i) (.int j) μ Q = Q (.bl (decide (i < j))) μ := rfl
theorem gt_ii {i j : Int} {μ : Mem} {Q : MQ} : oGt (.int i) (.int j) μ Q = Q (.bl (decide (j < i))) μ := rfl
theorem ge_ii {i j : Int} {μ : Mem} {Q : MQ} : oGe (.int i) (.int j) μ Q = Q (.bl (decide (j ≤ i))) μ := rfl
theorem add_ii {i j : Int} {μ : Mem} {Q : MQ} : oAdd (.int i) (.int j) μ Q = Q (.int (i + j)) μ := rfl
theorem sub_ii {i j : Int} {μ : Mem} {Q : MQ} : oSub (.int i) (.int j) μ Q = Q (.int (i - j)) μ := rfl
theorem iadd_ii {i j : Int} {μ : Mem} {Q : MQ} : oIAdd (.int i) (.int j) μ Q = Q (.int (i + j)) μ := rfl
theorem neg_i {i : Int} {μ : Mem} {Q : MQ} : oNeg (.int i) μ Q = Q (.int (-i)) μ := rfl
theorem len_t {xs : List W} {μ : Mem} {Q : MQ} : oLen [.tup xs] μ Q = Q (.int xs.length) μ := rfl
theorem int_i {i : Int} {μ : Mem} {Q : MQ} : oIntOf [.int i] μ Q = Q (.int i) μ := rfl
theorem abs_i {i : Int} {μ : Mem} {Q : MQ} : oAbs [.int i] μ Q = Q (.int (if i < 0 then -i else i)) μ := rfl
theorem add_tt {xs ys : List W} {μ : Mem} {Q : MQ} : oAdd (.tup xs) (.tup ys) μ Q = (xs.length + ys.length ≤ sizeLine ∧ Q (.tup (xs ++ ys)) μ) := rfl
theorem len_r {a : Addr} {xs : List W} {μ : Mem} {Q : MQ} (h : μ a = some (.lst xs)) (q : Q (.int xs.length) μ) : oLen [.ref a] μ Q := .inl ⟨xs, .inl h, q⟩
theorem ix_t {xs : List W} {i : Nat} {w : W} {μ : Mem} {Q : MQ} (h : xs[i]? = some w) (q : Q w μ) : oIx (.tup xs) (.int i) μ Q := ⟨w, by
  unfold atI ixN
  have hl : i < xs.length := (List.getElem?_eq_some_iff.mp h).1
  rw [if_pos (Int.natCast_nonneg i), if_pos (by omega)]
  exact h, q⟩
theorem ix_r {a : Addr} {xs : List W} {i : Nat} {w : W} {μ : Mem} {Q : MQ} (ha : μ a = some (.lst xs)) (h : xs[i]? = some w) (q : Q w μ) : oIx (.ref a) (.int i) μ Q := ⟨xs, w, .inl ha, by
  unfold atI ixN
  have hl : i < xs.length := (List.getElem?_eq_some_iff.mp h).1
  rw [if_pos (Int.natCast_nonneg i), if_pos (by omega)]
  exact h, q⟩
def dInt : PyData → Bool
  | .int _ => true
  | .bool _ => true
  | _ => false
def dBool : PyData → Bool
  | .bool _ => true
  | _ => false
def dStr : PyData → Bool
  | .str _ => true
  | _ => false
def dTup : PyData → Bool
  | .tuple _ => true
  | _ => false
def dList : PyData → Bool
  | .list _ => true
  | _ => false
section
variable {μ : Mem} {x y : W} {d e : PyData} {Q : MQ}
theorem isi_int (h : Dat μ x d) (q : Q (.bl (dInt d)) μ) : oIsi "int" x μ Q := o_isi h (by decide) (by decide) (by
  have e : isi (tyD d) "int" = dInt d := by cases d <;> simp [isi, tyD, dInt]
  rw [e]; exact q)
theorem isi_bool (h : Dat μ x d) (q : Q (.bl (dBool d)) μ) : oIsi "bool" x μ Q := o_isi h (by decide) (by decide) (by
  have e : isi (tyD d) "bool" = dBool d := by cases d <;> simp [isi, tyD, dBool]
  rw [e]; exact q)
theorem isi_str (h : Dat μ x d) (q : Q (.bl (dStr d)) μ) : oIsi "str" x μ Q := o_isi h (by decide) (by decide) (by
  have e : isi (tyD d) "str" = dStr d := by cases d <;> simp [isi, tyD, dStr]
  rw [e]; exact q)
theorem isi_tuple (h : Dat μ x d) (q : Q (.bl (dTup d)) μ) : oIsi "tuple" x μ Q := o_isi h (by decide) (by decide) (by
  have e : isi (tyD d) "tuple" = dTup d := by cases d <;> simp [isi, tyD, dTup]
  rw [e]; exact q)
theorem isi_list (h : Dat μ x d) (q : Q (.bl (dList d)) μ) : oIsi "list" x μ Q := o_isi h (by decide) (by decide) (by
  have e : isi (tyD d) "list" = dList d := by cases d <;> simp [isi, tyD, dList]
  rw [e]; exact q)
theorem eq_d (hx : Dat μ x d) (hy : Dat μ y e) (s1 : SeqAt.shaped d = true) (s2 : SeqAt.shaped e = true) (q : Q (.bl (PyData.eqv d e)) μ) : oEq x y μ Q := ⟨d, e, hx, hy, s1, s2, q⟩
theorem ne_d (hx : Dat μ x d) (hy : Dat μ y e) (s1 : SeqAt.shaped d = true) (s2 : SeqAt.shaped e = true) (q : Q (.bl (!PyData.eqv d e)) μ) : oNe x y μ Q := ⟨d, e, hx, hy, s1, s2, q⟩
end
theorem o_eqi {i j : Int} {μ : Mem} {Q : MQ} (q : Q (.bl (decide (i = j))) μ) : oEq (.int i) (.int j) μ Q := eq_d (.int i) (.int j) rfl rfl (by
  have e : PyData.eqv (.int i) (.int j) = decide (i = j) := rfl
  rw [e]; exact q)
theorem o_nei {i j : Int} {μ : Mem} {Q : MQ} (q : Q (.bl (!decide (i = j))) μ) : oNe (.int i) (.int j) μ Q := ne_d (.int i) (.int j) rfl rfl (by
  have e : PyData.eqv (.int i) (.int j) = decide (i = j) := rfl
  rw [e]; exact q)
theorem o_eqs {i j : Str} {μ : Mem} {Q : MQ} (h1 : PyData.strOk i = true) (h2 : PyData.strOk j = true) (q : Q (.bl (decide (i = j))) μ) : oEq (.str i) (.str j) μ Q := eq_d (.str i) (.str j) (by
  show (PyData.strOk i && true) = true
  rw [h1]; rfl) (by
  show (PyData.strOk j && true) = true
  rw [h2]; rfl) (by
  have e : PyData.eqv (.str i) (.str j) = decide (i = j) := rfl
  rw [e]; exact q)
theorem updM_updM {μ : Mem} {a : Addr} {o o' : MO} : updM (updM μ a o) a o' = updM μ a o' := by
  funext b
  unfold updM
  split <;> rfl
/-- the pair of a word and a number -/
def fW (s : Str) (n : Int) : W := .tup [.str s, .int n]
def fD (s : Str) (n : Int) : PyData := .tuple [.str s, .int n]
theorem fDat {μ : Mem} {s : Str} {n : Int} : Dat μ (fW s n) (fD s n) := .tup (.cons (.str s) (.cons (.int n) .nil))
theorem fsh {s : Str} {n : Int} (h : PyData.strOk s = true) : SeqAt.shaped (fD s n) = true := by
  show (PyData.canLay0 (fD s n) && decide (PyData.depth (fD s n) ≤ 64)) = true
  have e : PyData.depth (fD s n) = 1 := rfl
  rw [e]
  show ((PyData.strOk s && (true && true)) && decide (1 ≤ 64)) = true
  rw [h]
  rfl
theorem feq {s t : Str} {n m : Int} : PyData.eqv (fD s n) (fD t m) = (decide (s = t) && decide (n = m)) := by
  show (s == t && ((n == m) && true)) = _
  rw [Bool.and_true]
  congr 1
theorem o_eqf {s t : Str} {n m : Int} {μ : Mem} {Q : MQ} (h1 : PyData.strOk s = true) (h2 : PyData.strOk t = true) (q : Q (.bl (decide (s = t) && decide (n = m))) μ) : oEq (.tup [.str s, .int n]) (.tup [.str t, .int m]) μ Q := eq_d fDat fDat (fsh h1) (fsh h2) (by rw [feq]; exact q)
theorem o_nef {s t : Str} {n m : Int} {μ : Mem} {Q : MQ} (h1 : PyData.strOk s = true) (h2 : PyData.strOk t = true) (q : Q (.bl (!(decide (s = t) && decide (n = m)))) μ) : oNe (.tup [.str s, .int n]) (.tup [.str t, .int m]) μ Q := ne_d fDat fDat (fsh h1) (fsh h2) (by rw [feq]; exact q)
/-- form in ((..), (..)) -/
theorem o_inf {s t u : Str} {n m k : Int} {μ : Mem} {Q : MQ} (h1 : PyData.strOk s = true) (h2 : PyData.strOk t = true) (h3 : PyData.strOk u = true) (q : Q (.bl ((decide (s = t) && decide (n = m)) || (decide (s = u) && decide (n = k)))) μ) :
    oIn false (.tup [.str s, .int n]) (.tup [.tup [.str t, .int m], .tup [.str u, .int k]]) μ Q := by
  refine ⟨fD s n, [fD t m, fD u k], fDat, .inr (.tup (.cons fDat (.cons fDat .nil))), fsh h1, ?_, ?_⟩
  · have a1 := fsh (n := m) h2
    have a2 := fsh (n := k) h3
    unfold SeqAt.shaped at a1 a2 ⊢
    rw [Bool.and_eq_true] at a1 a2
    show ((PyData.canLay0 (fD t m) && (PyData.canLay0 (fD u k) && true)) && decide (2 ≤ 64)) = true
    rw [a1.1, a2.1]
    rfl
  · rw [if_neg Bool.false_ne_true]
    have e : ([fD t m, fD u k].any fun z => PyData.eqv z (fD s n)) = ((decide (s = t) && decide (n = m)) || (decide (s = u) && decide (n = k))) := by
      simp only [List.any_cons, List.any_nil, Bool.or_false, feq]
      have c1 : decide (t = s) = decide (s = t) := by rw [decide_eq_decide]; exact eq_comm
      have c2 : decide (m = n) = decide (n = m) := by rw [decide_eq_decide]; exact eq_comm
      have c3 : decide (u = s) = decide (s = u) := by rw [decide_eq_decide]; exact eq_comm
      have c4 : decide (k = n) = decide (n = k) := by rw [decide_eq_decide]; exact eq_comm
      rw [c1, c2, c3, c4]
    rw [e]
    exact q
end MP
set_option Elab.async false
set_option autoImplicit false
set_option linter.all false
set_option maxRecDepth 100000
namespace MP
open PySem PySem.Spec PyProof.Rows L2
/-! ### comprehensions of plain elements -/
theorem loopC_pure {i : Nat} {tt : MT} {te : ME} {vs : List Nat} {ρ₀ : MEnv} {ok : Mem → Prop} {Q : List W → Mem → Prop} {μ : Mem} (P : W → Bool) (f : W → W) (hok : ok μ) : ∀ (items acc : List W),
    (∀ w ∈ items, ∀ Q' : Bool → Mem → Prop, Q' (P w) μ → tt ((wipeM ρ₀ vs).set i (some w)) μ Q' noX) → (∀ w ∈ items, P w = true → ∀ Q' : MQ, Q' (f w) μ → te ((wipeM ρ₀ vs).set i (some w)) μ Q' noX) → acc.length + items.length ≤ sizeLine →
    Q (acc ++ (items.filter P).map f) μ → loopC (gNm i) tt te vs ρ₀ ok Q items acc μ
  | [], acc, _, _, _, h => ⟨hok, by simpa using h⟩
  | w :: r, acc, h1, h2, hl, h => by
    refine ⟨hok, h1 w List.mem_cons_self _ ?_⟩
    rw [List.length_cons] at hl
    by_cases hP : P w = true
    · rw [if_pos hP]
      refine h2 w List.mem_cons_self hP _ ⟨by omega, loopC_pure P f hok r (acc ++ [f w]) (fun w hw => h1 w (List.mem_cons_of_mem _ hw)) (fun w hw => h2 w (List.mem_cons_of_mem _ hw)) (by rw [List.length_append, List.length_singleton]; omega) ?_⟩
      rw [List.filter_cons_of_pos hP, List.map_cons] at h
      rw [List.append_assoc]
      exact h
    · rw [if_neg hP]
      rw [List.filter_cons_of_neg hP] at h
      exact loopC_pure P f hok r acc (fun w hw => h1 w (List.mem_cons_of_mem _ hw)) (fun w hw => h2 w (List.mem_cons_of_mem _ hw)) (by omega) h
/-- the same without a test -/
theorem loopC_all {i : Nat} {te : ME} {vs : List Nat} {ρ₀ : MEnv} {ok : Mem → Prop} {Q : List W → Mem → Prop} {μ : Mem} (f : W → W) (hok : ok μ) (items acc : List W)
    (h2 : ∀ w ∈ items, ∀ Q' : MQ, Q' (f w) μ → te ((wipeM ρ₀ vs).set i (some w)) μ Q' noX) (hl : acc.length + items.length ≤ sizeLine)
    (h : Q (acc ++ items.map f) μ) : loopC (gNm i) tTrue te vs ρ₀ ok Q items acc μ := loopC_pure (fun _ => true) f hok items acc (fun _ _ _ q => q) (fun w hw _ => h2 w hw) hl (by rw [List.filter_eq_self.mpr fun _ _ => rfl]; exact h)
/-- item by item -/
theorem loopC_rel {i : Nat} {te : ME} {vs : List Nat} {ρ₀ : MEnv} {ok : Mem → Prop} {Q : List W → Mem → Prop} {μ : Mem} (hok : ok μ) : ∀ {items rs : List W} (acc : List W),
    Paired (fun w r => ∀ Q' : MQ, Q' r μ → te ((wipeM ρ₀ vs).set i (some w)) μ Q' noX) items rs → acc.length + items.length ≤ sizeLine → Q (acc ++ rs) μ → loopC (gNm i) tTrue te vs ρ₀ ok Q items acc μ
  | _, _, acc, .nil, _, h => ⟨hok, by simpa using h⟩
  | _, _, acc, .cons h t, hl, q => by
    rw [List.length_cons] at hl
    refine ⟨hok, ?_⟩
    simp only [gNm, tTrue, ↓reduceIte]
    exact h _ ⟨by omega, loopC_rel hok (acc ++ [_]) t (by rw [List.length_append, List.length_singleton]; omega) (by rw [List.append_assoc]; exact q)⟩
/-- a for loop by its invariant -/
theorem loopF_inv {g : MG} {body : MS} {D : MEnds} {E : MXS} (I : Nat → MEnv → Mem → Prop) : ∀ (items : List W) (k : Nat) (ρ : MEnv) (μ : Mem),
    (∀ i w ρ μ (N : MEnv → Mem → Prop), items[i]? = some w → I (k + i) ρ μ → (∀ ρ' μ', I (k + i + 1) ρ' μ' → N ρ' μ') → g w ρ μ fun ρ1 μ1 => body ρ1 μ1 { nx := N, rt := D.rt, bk := D.nx, ct := N } E) →
    (∀ ρ μ, I (k + items.length) ρ μ → D.nx ρ μ) → I k ρ μ → loopF g body (fun _ => True) D E items ρ μ
  | [], k, ρ, μ, _, h2, h3 => ⟨trivial, h2 ρ μ h3⟩
  | w :: r, k, ρ, μ, h1, h2, h3 => by
    refine ⟨trivial, h1 0 w ρ μ _ rfl h3 fun ρ' μ' h => ?_⟩
    refine loopF_inv I r (k + 1) ρ' μ' (fun i x ρ μ N e hi hN => ?_) (fun ρ μ h => h2 ρ μ ?_) h
    · have e1 : k + 1 + i = k + (i + 1) := by omega
      rw [e1] at hi hN
      exact h1 (i + 1) x ρ μ N (by simpa using e) hi hN
    · have e1 : k + 1 + r.length = k + (w :: r).length := by rw [List.length_cons]; omega
      rw [e1] at h
      exact h
theorem cut1 (xs : List W) : cutW xs (some 1) none = xs.drop 1 := by
  unfold cutW
  rw [show HT.sIx xs.length 0 (some 1) = min 1 xs.length from HT.sIx_nat xs.length 0 1, HT.sIx_none]
  cases xs with
  | nil => rfl
  | cons x r =>
    rw [show min 1 (x :: r).length = 1 by rw [List.length_cons]; omega]
    show (List.take ((x :: r).length - 1) r) = r
    rw [List.length_cons, Nat.add_sub_cancel]
    exact List.take_length
theorem cut2 (xs : List W) : cutW xs none (some 2) = xs.take 2 := by
  unfold cutW
  rw [show HT.sIx xs.length xs.length (some 2) = min 2 xs.length from HT.sIx_nat xs.length _ 2, HT.sIx_none]
  show List.take (min 2 xs.length - 0) (xs.drop 0) = _
  rw [Nat.sub_zero, List.drop_zero]
  by_cases h : xs.length ≤ 2
  · rw [Nat.min_eq_right h, List.take_length, List.take_of_length_le h]
  · rw [Nat.min_eq_left (by omega)]
theorem KeysW.length : ∀ {ws : List W} {ks : List NestedKey}, KeysW ws ks → ks.length = ws.length
  | _, _, .nil => rfl
  | _, _, .cons _ t => by rw [List.length_cons, List.length_cons, KeysW.length t]
/-- the statements behind the first ones -/
def dropS : Nat → XSs → XSs
  | 0, t => t
  | n + 1, .cons _ r => dropS n r
  | _ + 1, .nil => .nil
/-- the first statement -/
def headS : XSs → XS
  | .cons s _ => s
  | .nil => .pass
/-- the first statement's suite, where its test holds -/
def thenS : XSs → XSs
  | .cons (.iff _ a _) _ => a
  | _ => .nil
/-- a loop's suite -/
def forS : XSs → XSs
  | .cons (.for_ _ _ _ b) _ => b
  | _ => .nil
def isTup : W → Bool
  | .tup _ => true
  | _ => false
theorem isTup_dat {μ : Mem} {w : W} {d : PyData} (h : Dat μ w d) : dTup d = isTup w := by cases h <;> rfl
/-- isinstance(x, tuple), as a test -/
theorem isi_tup {μ : Mem} {x : W} {d : PyData} {Q : MQ} (h : Dat μ x d) (q : Q (.bl (isTup x)) μ) : oIsi "tuple" x μ Q := isi_tuple h (by rw [isTup_dat h]; exact q)
/-! ### sizes of terms -/
mutual
def szW : W → Int
  | .tup l => 1 + szT l
  | _ => 1
def szT : List W → Int
  | [] => 0
  | _ :: r => szL r
def szL : List W → Int
  | [] => 0
  | w :: r => (if isTup w then szW w else 0) + szL r
end
theorem szL_sum : ∀ l : List W, szL l = ((l.filter isTup).map szW).sum
  | [] => by simp [szL]
  | w :: r => by
    rw [szL, szL_sum r]
    by_cases h : isTup w = true
    · rw [if_pos h, List.filter_cons_of_pos h, List.map_cons, List.sum_cons]
    · rw [if_neg h, List.filter_cons_of_neg h, Int.zero_add]
theorem szT_drop (l : List W) : szT l = szL (l.drop 1) := by
  cases l with
  | nil => simp [szT, szL]
  | cons w r => simp [szT]
theorem depth_mem {ds : List PyData} {d : PyData} (h : d ∈ ds) : d.depth ≤ PyData.depthAll ds := by
  induction ds with
  | nil => cases h
  | cons e ds ih =>
    unfold PyData.depthAll
    rcases List.mem_cons.mp h with q | q
    · subst q; exact Nat.le_max_left _ _
    · exact Nat.le_trans (ih q) (Nat.le_max_right _ _)
theorem ok_memD {μ : Mem} {ws : List W} {d : PyData} {w : W} (h : OkV μ (.tup ws) d) (hw : w ∈ ws) : ∃ e, OkV μ w e ∧ e.depth + 1 ≤ d.depth := by
  obtain ⟨h1, h2⟩ := h
  cases h1 with
  | tup t =>
    obtain ⟨e, he, k⟩ := t.mem hw
    have := depth_mem he
    exact ⟨e, ⟨k, fine_tup h2 he⟩, by show e.depth + 1 ≤ PyData.depthAll _ + 1; omega⟩
theorem fine_depth {d : PyData} (h : fine d = true) : d.depth ≤ 64 := SeqAt.depth_of_shaped (fine_sh h)
theorem le_line {n : Nat} (h : n ≤ 1000000) : n ≤ sizeLine := Nat.le_trans h (by decide)
end MP
set_option Elab.async false
set_option autoImplicit false
set_option linter.all false
set_option maxRecDepth 100000
namespace K01
open PySem PySem.Spec PyProof.Rows L2 MP
def topS (i : Nat) : Stmt := PySem.Challenge.pw_kindsandroles_k01_terms_terminologies_an.main.body.getD i (.Pass ⟨0, 0, 0, 0⟩)
def inC (s : Stmt) (k : Nat) : Stmt := match s with
  | .ClassDef _ _ _ b _ _ _ _ _ _ _ => b.getD k (.Pass ⟨0, 0, 0, 0⟩)
  | _ => .Pass ⟨0, 0, 0, 0⟩
abbrev j_is_integer : Nat := 0
abbrev j_form_of : Nat := 1
abbrev j_are_ascending : Nat := 2
abbrev j_Form_init : Nat := 3
abbrev j_Form_is_good : Nat := 4
abbrev j_is_term_over : Nat := 5
abbrev j_size_of : Nat := 6
abbrev j_total_of : Nat := 7
abbrev j_is_axiom : Nat := 8
abbrev j_is_terms : Nat := 9
abbrev j_is_term : Nat := 10
abbrev j_are_things : Nat := 11
abbrev j_are_pairs : Nat := 12
abbrev j_is_world_of : Nat := 13
abbrev j_is_world : Nat := 14
abbrev j_check_terms : Nat := 15
abbrev j_check_term : Nat := 16
abbrev j_check_world : Nat := 17
abbrev j_members : Nat := 18
abbrev j_things_of : Nat := 19
abbrev j_law_bag : Nat := 20
abbrev j_law_draw : Nat := 21
abbrev j_law_one : Nat := 22
abbrev j_law_term : Nat := 23
abbrev j_law_axiom : Nat := 24
abbrev j_law_terms : Nat := 25
abbrev j_law_world : Nat := 26
abbrev j_law_spoilt : Nat := 27
abbrev j_law_is_int : Nat := 28
abbrev j_law_form : Nat := 29
abbrev j_law_is_term : Nat := 30
abbrev j_law_is_axiom : Nat := 31
abbrev j_law_is_terms : Nat := 32
abbrev j_law_up : Nat := 33
abbrev j_law_is_world : Nat := 34
abbrev j_law_told : Nat := 35
abbrev j_law_tall : Nat := 36
abbrev j_law_many : Nat := 37
abbrev j_law : Nat := 38
def excL : List Str := ["BadTerms", "BadTerm", "BadWorld"]
/-- is_integer(value, low, high): value, low, high -/
def t_is_integer : XSs := (.cons (.ret (.ands (.cons (.isi "int" (.var 0)) (.cons (.not (.isi "bool" (.var 0))) (.cons (.chn 3 3 (.var 1) (.var 0) (.var 2)) .nil)))))
  .nil)
abbrev s0 : Stmt := topS 13
def d0 : DefE := ⟨"is_integer", "is_integer", s0, ["value", "low", "high"], ["value", "low", "high"], t_is_integer⟩
/-- form_of(value): value -/
def t_form_of : XSs := (.cons (.iff (.ors (.cons (.not (.val (.isi "tuple" (.var 0)))) (.cons (.cop 12 (.var 0) (.tup .nil)) (.cons (.not (.val (.isi "str" (.ix 0 (.var 0) (.int 0))))) .nil)))) (.cons (.ret (.tup (.cons (.str "") (.cons (.int 0) .nil))))
  .nil) .nil)
  (.cons (.ret (.tup (.cons (.ix 0 (.var 0) (.int 0)) (.cons (.bc 0 (.cons (.var 0) .nil)) .nil))))
  .nil))
abbrev s1 : Stmt := topS 14
def d1 : DefE := ⟨"form_of", "form_of", s1, ["value"], ["value"], t_form_of⟩
/-- are_ascending(rows): rows, one, other -/
def t_are_ascending : XSs := (.cons (.ret (.lcb 1 (.fn 2 (.cons (.var 0) (.cons (.sl (.var 0) (.some (.int 1)) .none) .nil))) (.tup (.cons (.nm 1) (.cons (.nm 2) .nil))) .nil (.cop 10 (.var 1) (.var 2)) [("one", 1), ("other", 2)]))
  .nil)
abbrev s2 : Stmt := topS 15
def d2 : DefE := ⟨"are_ascending", "are_ascending", s2, ["rows"], ["rows", "one", "other"], t_are_ascending⟩
/-- Form.__init__(self, kinds, roles): self, kinds, roles -/
def t_Form_init : XSs := (.cons (.fldS 0 "_kinds" (.var 0) (.var 1))
  (.cons (.fldS 0 "_roles" (.var 0) (.var 2))
  (.cons (.fldS 0 "_many" (.var 0) (.int 0))
  .nil)))
abbrev s3 : Stmt := inC (topS 16) 0
def d3 : DefE := ⟨"__init__", "Form.__init__", s3, ["self", "kinds", "roles"], ["self", "kinds", "roles"], t_Form_init⟩
/-- Form.is_good(self, value, left): self, value, left, form -/
def t_Form_is_good : XSs := (.cons (.fldA 0 "_many" 0 (.var 0) (.int 1))
  (.cons (.iff (.ors (.cons (.cop 0 (.var 2) (.int 0)) (.cons (.cop 4 (.fld 0 "_many" (.var 0)) (.glob 0)) .nil))) (.cons (.ret (.bl false))
  .nil) .nil)
  (.cons (.asg (.call j_form_of (.cons (.var 1) .nil)) (.nm 3))
  (.cons (.iff (.cop 6 (.var 3) (.tup (.cons (.tup (.cons (.str "any") (.cons (.int 1) .nil))) (.cons (.tup (.cons (.str "none") (.cons (.int 1) .nil))) .nil)))) (.cons (.ret (.bl true))
  .nil) .nil)
  (.cons (.iff (.cop 0 (.var 3) (.tup (.cons (.str "kind") (.cons (.int 2) .nil)))) (.cons (.ret (.call j_is_integer (.cons (.ix 0 (.var 1) (.int 1)) (.cons (.int 0) (.cons (.bop 1 (.fld 0 "_kinds" (.var 0)) (.int 1)) .nil)))))
  .nil) .nil)
  (.cons (.iff (.cop 0 (.var 3) (.tup (.cons (.str "some") (.cons (.int 3) .nil)))) (.cons (.ret (.ands (.cons (.call j_is_integer (.cons (.ix 0 (.var 1) (.int 1)) (.cons (.int 0) (.cons (.bop 1 (.fld 0 "_roles" (.var 0)) (.int 1)) .nil)))) (.cons (.meth 0 j_Form_is_good "is_good" (.var 0) (.cons (.ix 0 (.var 1) (.int 2)) (.cons (.bop 1 (.var 2) (.int 1)) .nil))) .nil))))
  .nil) .nil)
  (.cons (.iff (.cop 1 (.var 3) (.tup (.cons (.str "both") (.cons (.int 3) .nil)))) (.cons (.ret (.bl false))
  .nil) .nil)
  (.cons (.ret (.ands (.cons (.meth 0 j_Form_is_good "is_good" (.var 0) (.cons (.ix 0 (.var 1) (.int 1)) (.cons (.bop 1 (.var 2) (.int 1)) .nil))) (.cons (.meth 0 j_Form_is_good "is_good" (.var 0) (.cons (.ix 0 (.var 1) (.int 2)) (.cons (.bop 1 (.var 2) (.int 1)) .nil))) .nil))))
  .nil))))))))
abbrev s4 : Stmt := inC (topS 16) 1
def d4 : DefE := ⟨"is_good", "Form.is_good", s4, ["self", "value", "left"], ["self", "value", "left", "form"], t_Form_is_good⟩
/-- is_term_over(kinds, roles, value): kinds, roles, value -/
def t_is_term_over : XSs := (.cons (.ret (.meth 0 j_Form_is_good "is_good" (.make 0 (.cons (.var 0) (.cons (.var 1) .nil))) (.cons (.var 2) (.cons (.glob 1) .nil))))
  .nil)
abbrev s5 : Stmt := topS 17
def d5 : DefE := ⟨"is_term_over", "is_term_over", s5, ["kinds", "roles", "value"], ["kinds", "roles", "value"], t_is_term_over⟩
/-- size_of(term): term, one -/
def t_size_of : XSs := (.cons (.ret (.bop 0 (.int 1) (.lcb 0 (.seq (.sl (.var 0) (.some (.int 1)) .none)) (.nm 1) (.cons (.val (.isi "tuple" (.var 1))) .nil) (.call j_size_of (.cons (.var 1) .nil)) [("one", 1)])))
  .nil)
abbrev s6 : Stmt := topS 18
def d6 : DefE := ⟨"size_of", "size_of", s6, ["term"], ["term", "one"], t_size_of⟩
/-- total_of(axioms): axioms, axiom -/
def t_total_of : XSs := (.cons (.ret (.lcb 0 (.seq (.var 0)) (.nm 1) (.cons (.cop 0 (.ix 0 (.var 1) (.int 0)) (.str "is")) .nil) (.bop 0 (.call j_size_of (.cons (.ix 0 (.var 1) (.int 1)) .nil)) (.call j_size_of (.cons (.ix 0 (.var 1) (.int 2)) .nil))) [("axiom", 1)]))
  .nil)
abbrev s7 : Stmt := topS 19
def d7 : DefE := ⟨"total_of", "total_of", s7, ["axioms"], ["axioms", "axiom"], t_total_of⟩
/-- is_axiom(value, kinds, roles): value, kinds, roles, form, role -/
def t_is_axiom : XSs := (.cons (.asg (.call j_form_of (.cons (.var 0) .nil)) (.nm 3))
  (.cons (.iff (.cop 0 (.var 3) (.tup (.cons (.str "is") (.cons (.int 3) .nil)))) (.cons (.ret (.ands (.cons (.call j_is_term_over (.cons (.var 1) (.cons (.var 2) (.cons (.ix 0 (.var 0) (.int 1)) .nil)))) (.cons (.call j_is_term_over (.cons (.var 1) (.cons (.var 2) (.cons (.ix 0 (.var 0) (.int 2)) .nil)))) .nil))))
  .nil) .nil)
  (.cons (.iff (.cop 6 (.var 3) (.tup (.cons (.tup (.cons (.str "within") (.cons (.int 3) .nil))) (.cons (.tup (.cons (.str "chain") (.cons (.int 4) .nil))) .nil)))) (.cons (.ret (.lcb 1 (.seq (.sl (.var 0) (.some (.int 1)) .none)) (.nm 4) .nil (.call j_is_integer (.cons (.var 4) (.cons (.int 0) (.cons (.bop 1 (.var 2) (.int 1)) .nil)))) [("role", 4)]))
  .nil) .nil)
  (.cons (.ret (.bl false))
  .nil))))
abbrev s8 : Stmt := topS 20
def d8 : DefE := ⟨"is_axiom", "is_axiom", s8, ["value", "kinds", "roles"], ["value", "kinds", "roles", "form", "role"], t_is_axiom⟩
/-- is_terms(value): value, _, kinds, roles, axioms, axiom -/
def t_is_terms : XSs := (.cons (.iff (.cop 1 (.call j_form_of (.cons (.var 0) .nil)) (.tup (.cons (.str "terms") (.cons (.int 4) .nil)))) (.cons (.ret (.bl false))
  .nil) .nil)
  (.cons (.asg (.var 0) (.tup (.cons (.nm 1) (.cons (.nm 2) (.cons (.nm 3) (.cons (.nm 4) .nil))))))
  (.cons (.iff (.ors (.cons (.not (.val (.call j_is_integer (.cons (.var 2) (.cons (.int 1) (.cons (.glob 5) .nil)))))) (.cons (.not (.val (.call j_is_integer (.cons (.var 3) (.cons (.int 0) (.cons (.glob 4) .nil)))))) .nil))) (.cons (.ret (.bl false))
  .nil) .nil)
  (.cons (.iff (.ors (.cons (.not (.val (.isi "tuple" (.var 4)))) (.cons (.cop 4 (.bc 0 (.cons (.var 4) .nil)) (.glob 3)) .nil))) (.cons (.ret (.bl false))
  .nil) .nil)
  (.cons (.iff (.ors (.cons (.not (.val (.lcb 1 (.seq (.var 4)) (.nm 5) .nil (.call j_is_axiom (.cons (.var 5) (.cons (.var 2) (.cons (.var 3) .nil)))) [("axiom", 5)]))) (.cons (.cop 2 (.spc 0 (.cons (.var 4) .nil)) (.bc 0 (.cons (.var 4) .nil))) .nil))) (.cons (.ret (.bl false))
  .nil) .nil)
  (.cons (.ret (.cop 3 (.call j_total_of (.cons (.var 4) .nil)) (.glob 2)))
  .nil))))))
abbrev s9 : Stmt := topS 21
def d9 : DefE := ⟨"is_terms", "is_terms", s9, ["value"], ["value", "_", "kinds", "roles", "axioms", "axiom"], t_is_terms⟩
/-- is_term(terms, value): terms, value -/
def t_is_term : XSs := (.cons (.ret (.ands (.cons (.call j_is_terms (.cons (.var 0) .nil)) (.cons (.call j_is_term_over (.cons (.ix 0 (.var 0) (.int 1)) (.cons (.ix 0 (.var 0) (.int 2)) (.cons (.var 1) .nil)))) .nil))))
  .nil)
abbrev s10 : Stmt := topS 22
def d10 : DefE := ⟨"is_term", "is_term", s10, ["terms", "value"], ["terms", "value"], t_is_term⟩
/-- are_things(value, size): value, size, one -/
def t_are_things : XSs := (.cons (.ret (.ands (.cons (.isi "tuple" (.var 0)) (.cons (.lcb 1 (.seq (.var 0)) (.nm 2) .nil (.call j_is_integer (.cons (.var 2) (.cons (.int 0) (.cons (.bop 1 (.var 1) (.int 1)) .nil)))) [("one", 2)]) (.cons (.call j_are_ascending (.cons (.var 0) .nil)) .nil)))))
  .nil)
abbrev s11 : Stmt := topS 23
def d11 : DefE := ⟨"are_things", "are_things", s11, ["value", "size"], ["value", "size", "one"], t_are_things⟩
/-- are_pairs(value, size): value, size, pair, one -/
def t_are_pairs : XSs := (.cons (.iff (.not (.val (.isi "tuple" (.var 0)))) (.cons (.ret (.bl false))
  .nil) .nil)
  (.cons (.for_ (.seq (.var 0)) (.nm 2) [2] (.cons (.iff (.ors (.cons (.not (.val (.isi "tuple" (.var 2)))) (.cons (.cop 1 (.bc 0 (.cons (.var 2) .nil)) (.int 2)) (.cons (.not (.val (.lcb 1 (.seq (.var 2)) (.nm 3) .nil (.call j_is_integer (.cons (.var 3) (.cons (.int 0) (.cons (.bop 1 (.var 1) (.int 1)) .nil)))) [("one", 3)]))) .nil)))) (.cons (.ret (.bl false))
  .nil) .nil)
  .nil))
  (.cons (.ret (.call j_are_ascending (.cons (.var 0) .nil)))
  .nil)))
abbrev s12 : Stmt := topS 24
def d12 : DefE := ⟨"are_pairs", "are_pairs", s12, ["value", "size"], ["value", "size", "pair", "one"], t_are_pairs⟩
/-- is_world_of(terms, value): terms, value, _, size, kinds, roles, one -/
def t_is_world_of : XSs := (.cons (.iff (.cop 1 (.call j_form_of (.cons (.var 1) .nil)) (.tup (.cons (.str "world") (.cons (.int 4) .nil)))) (.cons (.ret (.bl false))
  .nil) .nil)
  (.cons (.asg (.var 1) (.tup (.cons (.nm 2) (.cons (.nm 3) (.cons (.nm 4) (.cons (.nm 5) .nil))))))
  (.cons (.iff (.ors (.cons (.not (.val (.call j_is_integer (.cons (.var 3) (.cons (.int 1) (.cons (.glob 6) .nil)))))) (.cons (.not (.val (.isi "tuple" (.var 4)))) (.cons (.not (.val (.isi "tuple" (.var 5)))) .nil)))) (.cons (.ret (.bl false))
  .nil) .nil)
  (.cons (.iff (.ors (.cons (.cop 1 (.bc 0 (.cons (.var 4) .nil)) (.ix 0 (.var 0) (.int 1))) (.cons (.cop 1 (.bc 0 (.cons (.var 5) .nil)) (.ix 0 (.var 0) (.int 2))) .nil))) (.cons (.ret (.bl false))
  .nil) .nil)
  (.cons (.ret (.ands (.cons (.lcb 1 (.seq (.var 4)) (.nm 6) .nil (.call j_are_things (.cons (.var 6) (.cons (.var 3) .nil))) [("one", 6)]) (.cons (.lcb 1 (.seq (.var 5)) (.nm 6) .nil (.call j_are_pairs (.cons (.var 6) (.cons (.var 3) .nil))) [("one", 6)]) .nil))))
  .nil)))))
abbrev s13 : Stmt := topS 25
def d13 : DefE := ⟨"is_world_of", "is_world_of", s13, ["terms", "value"], ["terms", "value", "_", "size", "kinds", "roles", "one"], t_is_world_of⟩
/-- is_world(terms, value): terms, value -/
def t_is_world : XSs := (.cons (.ret (.ands (.cons (.call j_is_terms (.cons (.var 0) .nil)) (.cons (.call j_is_world_of (.cons (.var 0) (.cons (.var 1) .nil))) .nil))))
  .nil)
abbrev s14 : Stmt := topS 26
def d14 : DefE := ⟨"is_world", "is_world", s14, ["terms", "value"], ["terms", "value"], t_is_world⟩
/-- check_terms(terms): terms -/
def t_check_terms : XSs := (.cons (.iff (.not (.val (.call j_is_terms (.cons (.var 0) .nil)))) (.cons (.raise0 "BadTerms")
  .nil) .nil)
  .nil)
abbrev s15 : Stmt := topS 27
def d15 : DefE := ⟨"check_terms", "check_terms", s15, ["terms"], ["terms"], t_check_terms⟩
/-- check_term(terms, value): terms, value -/
def t_check_term : XSs := (.cons (.iff (.not (.val (.call j_is_term_over (.cons (.ix 0 (.var 0) (.int 1)) (.cons (.ix 0 (.var 0) (.int 2)) (.cons (.var 1) .nil)))))) (.cons (.raise0 "BadTerm")
  .nil) .nil)
  .nil)
abbrev s16 : Stmt := topS 28
def d16 : DefE := ⟨"check_term", "check_term", s16, ["terms", "value"], ["terms", "value"], t_check_term⟩
/-- check_world(terms, value): terms, value -/
def t_check_world : XSs := (.cons (.iff (.not (.val (.call j_is_world_of (.cons (.var 0) (.cons (.var 1) .nil))))) (.cons (.raise0 "BadWorld")
  .nil) .nil)
  .nil)
abbrev s17 : Stmt := topS 29
def d17 : DefE := ⟨"check_world", "check_world", s17, ["terms", "value"], ["terms", "value"], t_check_world⟩
/-- members(world, term): world, term, inner, found, _, size, kinds, roles, one, other, begin, end, thing -/
def t_members : XSs := (.cons (.asg (.var 0) (.tup (.cons (.nm 4) (.cons (.nm 5) (.cons (.nm 6) (.cons (.nm 7) .nil))))))
  (.cons (.iff (.cop 0 (.ix 0 (.var 1) (.int 0)) (.str "any")) (.cons (.ret (.spc 2 (.cons (.var 5) .nil)))
  .nil) .nil)
  (.cons (.iff (.cop 0 (.ix 0 (.var 1) (.int 0)) (.str "none")) (.cons (.ret (.tup .nil))
  .nil) .nil)
  (.cons (.iff (.cop 0 (.ix 0 (.var 1) (.int 0)) (.str "kind")) (.cons (.ret (.ix 0 (.var 6) (.ix 0 (.var 1) (.int 1))))
  .nil) .nil)
  (.cons (.iff (.cop 0 (.ix 0 (.var 1) (.int 0)) (.str "both")) (.cons (.asg (.call j_members (.cons (.var 0) (.cons (.ix 0 (.var 1) (.int 1)) .nil))) (.nm 8))
  (.cons (.asg (.call j_members (.cons (.var 0) (.cons (.ix 0 (.var 1) (.int 2)) .nil))) (.nm 9))
  (.cons (.ret (.lcb 5 (.seq (.var 8)) (.nm 12) (.cons (.cop 6 (.var 12) (.var 9)) .nil) (.var 12) [("thing", 12)]))
  .nil))) .nil)
  (.cons (.asg (.call j_members (.cons (.var 0) (.cons (.ix 0 (.var 1) (.int 2)) .nil))) (.nm 2))
  (.cons (.asg .dk0 (.nm 3))
  (.cons (.for_ (.seq (.ix 0 (.var 7) (.ix 0 (.var 1) (.int 1)))) (.tup (.cons (.nm 10) (.cons (.nm 11) .nil))) [10, 11] (.cons (.iff (.cop 6 (.var 11) (.var 2)) (.cons (.asg (.bl true) (.sub 1 (.var 3) (.var 10)))
  .nil) .nil)
  .nil))
  (.cons (.ret (.bc 4 (.cons (.bc 15 (.cons (.var 3) .nil)) .nil)))
  .nil)))))))))
abbrev s18 : Stmt := topS 31
def d18 : DefE := ⟨"members", "members", s18, ["world", "term"], ["world", "term", "inner", "found", "_", "size", "kinds", "roles", "one", "other", "begin", "end", "thing"], t_members⟩
/-- things_of(terms, world, C): terms, world, C -/
def t_things_of : XSs := (.cons (.expr (.call j_check_terms (.cons (.var 0) .nil)))
  (.cons (.expr (.call j_check_world (.cons (.var 0) (.cons (.var 1) .nil))))
  (.cons (.expr (.call j_check_term (.cons (.var 0) (.cons (.var 2) .nil))))
  (.cons (.ret (.call j_members (.cons (.var 1) (.cons (.var 2) .nil))))
  .nil))))
abbrev s19 : Stmt := topS 32
def d19 : DefE := ⟨"things_of", "things_of", s19, ["terms", "world", "C"], ["terms", "world", "C"], t_things_of⟩
/-- _law_bag(script, k): script, k, cell -/
def t_law_bag : XSs := (.cons (.asg (.int 0) (.nm 2))
  (.cons (.iff (.cop 2 (.var 1) (.bc 0 (.cons (.var 0) .nil))) (.cons (.asg (.bc 2 (.cons (.ix 0 (.var 0) (.var 1)) .nil)) (.nm 2))
  .nil) .nil)
  (.cons (.ret (.lst (.cons (.int 0) (.cons (.bop 0 (.int 2237) (.bop 2 (.int 48611) (.var 1))) (.cons (.int 0) (.cons (.var 2) .nil))))))
  .nil)))
abbrev s20 : Stmt := topS 34
def d20 : DefE := ⟨"_law_bag", "_law_bag", s20, ["script", "k"], ["script", "k", "cell"], t_law_bag⟩
/-- _law_draw(bag, many): bag, many, rest, seed -/
def t_law_draw : XSs := (.cons (.iff (.cop 2 (.var 1) (.int 1)) (.cons (.ret (.int 0))
  .nil) .nil)
  (.cons (.iff (.cop 0 (.ix 0 (.var 0) (.int 0)) (.int 0)) (.cons (.asg (.bop 0 (.ix 0 (.var 0) (.int 2)) (.int 1)) (.sub 0 (.var 0) (.int 2)))
  (.cons (.asg (.bop 4 (.bc 2 (.cons (.bop 0 (.bop 0 (.bop 0 (.bop 2 (.ix 0 (.var 0) (.int 1)) (.int 48271)) (.bop 2 (.ix 0 (.var 0) (.int 3)) (.int 69621))) (.bop 2 (.ix 0 (.var 0) (.int 2)) (.int 16807))) (.int 11)) .nil)) (.int 2147483647)) (.nm 3))
  (.cons (.asg (.bop 0 (.bop 2 (.var 3) (.int 2147483629)) (.bop 4 (.bc 2 (.cons (.bop 0 (.bop 2 (.var 3) (.var 3)) (.ix 0 (.var 0) (.int 3))) .nil)) (.int 2147483629))) (.sub 0 (.var 0) (.int 0)))
  (.cons (.iff (.ands (.cons (.cop 0 (.ix 0 (.var 0) (.int 2)) (.int 1)) (.cons (.cop 5 (.ix 0 (.var 0) (.int 3)) (.bop 5 (.int 10) (.int 18))) .nil))) (.cons (.asg (.ix 0 (.var 0) (.int 3)) (.sub 0 (.var 0) (.int 0)))
  .nil) .nil)
  (.cons (.asg (.var 3) (.sub 0 (.var 0) (.int 1)))
  .nil))))) .nil)
  (.cons (.asg (.ix 0 (.var 0) (.int 0)) (.nm 2))
  (.cons (.asg (.bop 3 (.var 2) (.var 1)) (.sub 0 (.var 0) (.int 0)))
  (.cons (.ret (.bop 4 (.bc 2 (.cons (.var 2) .nil)) (.var 1)))
  .nil)))))
abbrev s21 : Stmt := topS 35
def d21 : DefE := ⟨"_law_draw", "_law_draw", s21, ["bag", "many"], ["bag", "many", "rest", "seed"], t_law_draw⟩
/-- _law_one(bag, row): bag, row -/
def t_law_one : XSs := (.cons (.ret (.ix 0 (.var 1) (.call j_law_draw (.cons (.var 0) (.cons (.bc 0 (.cons (.var 1) .nil)) .nil)))))
  .nil)
abbrev s22 : Stmt := topS 36
def d22 : DefE := ⟨"_law_one", "_law_one", s22, ["bag", "row"], ["bag", "row"], t_law_one⟩
/-- _law_term(bag, kinds, roles, left): bag, kinds, roles, left, pick -/
def t_law_term : XSs := (.cons (.asg (.call j_law_draw (.cons (.var 0) (.cons (.int 10) .nil))) (.nm 4))
  (.cons (.iff (.ors (.cons (.cop 2 (.var 3) (.int 2)) (.cons (.cop 2 (.var 4) (.int 4)) .nil))) (.cons (.ret (.call j_law_one (.cons (.var 0) (.cons (.lst (.cons (.tup (.cons (.str "any") .nil)) (.cons (.tup (.cons (.str "none") .nil)) (.cons (.tup (.cons (.str "kind") (.cons (.call j_law_draw (.cons (.var 0) (.cons (.var 1) .nil))) .nil))) (.cons (.tup (.cons (.str "kind") (.cons (.call j_law_draw (.cons (.var 0) (.cons (.var 1) .nil))) .nil))) (.cons (.tup (.cons (.str "kind") (.cons (.call j_law_draw (.cons (.var 0) (.cons (.var 1) .nil))) .nil))) .nil)))))) .nil))))
  .nil) .nil)
  (.cons (.iff (.ors (.cons (.cop 2 (.var 4) (.int 7)) (.cons (.cop 0 (.var 2) (.int 0)) .nil))) (.cons (.ret (.tup (.cons (.str "both") (.cons (.call j_law_term (.cons (.var 0) (.cons (.var 1) (.cons (.var 2) (.cons (.bop 1 (.var 3) (.int 1)) .nil))))) (.cons (.call j_law_term (.cons (.var 0) (.cons (.var 1) (.cons (.var 2) (.cons (.bop 1 (.var 3) (.int 1)) .nil))))) .nil)))))
  .nil) .nil)
  (.cons (.ret (.tup (.cons (.str "some") (.cons (.call j_law_draw (.cons (.var 0) (.cons (.var 2) .nil))) (.cons (.call j_law_term (.cons (.var 0) (.cons (.var 1) (.cons (.var 2) (.cons (.bop 1 (.var 3) (.int 1)) .nil))))) .nil)))))
  .nil))))
abbrev s23 : Stmt := topS 37
def d23 : DefE := ⟨"_law_term", "_law_term", s23, ["bag", "kinds", "roles", "left"], ["bag", "kinds", "roles", "left", "pick"], t_law_term⟩
/-- _law_axiom(bag, kinds, roles): bag, kinds, roles, pick -/
def t_law_axiom : XSs := (.cons (.asg (.ite (.cop 4 (.var 2) (.int 0)) (.call j_law_draw (.cons (.var 0) (.cons (.int 8) .nil))) (.int 0)) (.nm 3))
  (.cons (.iff (.cop 0 (.var 3) (.int 6)) (.cons (.ret (.tup (.cons (.str "within") (.cons (.call j_law_draw (.cons (.var 0) (.cons (.var 2) .nil))) (.cons (.call j_law_draw (.cons (.var 0) (.cons (.var 2) .nil))) .nil)))))
  .nil) .nil)
  (.cons (.iff (.cop 0 (.var 3) (.int 7)) (.cons (.ret (.tup (.cons (.str "chain") (.cons (.call j_law_draw (.cons (.var 0) (.cons (.var 2) .nil))) (.cons (.call j_law_draw (.cons (.var 0) (.cons (.var 2) .nil))) (.cons (.call j_law_draw (.cons (.var 0) (.cons (.var 2) .nil))) .nil))))))
  .nil) .nil)
  (.cons (.ret (.tup (.cons (.str "is") (.cons (.call j_law_term (.cons (.var 0) (.cons (.var 1) (.cons (.var 2) (.cons (.bop 0 (.int 1) (.call j_law_draw (.cons (.var 0) (.cons (.int 3) .nil)))) .nil))))) (.cons (.call j_law_term (.cons (.var 0) (.cons (.var 1) (.cons (.var 2) (.cons (.bop 0 (.int 1) (.call j_law_draw (.cons (.var 0) (.cons (.int 3) .nil)))) .nil))))) .nil)))))
  .nil))))
abbrev s24 : Stmt := topS 38
def d24 : DefE := ⟨"_law_axiom", "_law_axiom", s24, ["bag", "kinds", "roles"], ["bag", "kinds", "roles", "pick"], t_law_axiom⟩
/-- _law_terms(bag, most): bag, most, kinds, roles, axioms, k, axiom -/
def t_law_terms : XSs := (.cons (.asg (.bop 0 (.int 1) (.call j_law_draw (.cons (.var 0) (.cons (.int 4) .nil)))) (.nm 2))
  (.cons (.asg (.call j_law_draw (.cons (.var 0) (.cons (.int 4) .nil))) (.nm 3))
  (.cons (.asg (.tup .nil) (.nm 4))
  (.cons (.for_ (.fn 0 (.cons (.call j_law_draw (.cons (.var 0) (.cons (.bop 0 (.var 1) (.int 1)) .nil))) .nil)) (.nm 5) [5] (.cons (.asg (.call j_law_axiom (.cons (.var 0) (.cons (.var 2) (.cons (.var 3) .nil)))) (.nm 6))
  (.cons (.iff (.cop 7 (.var 6) (.var 4)) (.cons (.asg (.bop 0 (.var 4) (.tup (.cons (.var 6) .nil))) (.nm 4))
  .nil) .nil)
  .nil)))
  (.cons (.ret (.tup (.cons (.str "terms") (.cons (.var 2) (.cons (.var 3) (.cons (.var 4) .nil))))))
  .nil)))))
abbrev s25 : Stmt := topS 39
def d25 : DefE := ⟨"_law_terms", "_law_terms", s25, ["bag", "most"], ["bag", "most", "kinds", "roles", "axioms", "k", "axiom"], t_law_terms⟩
/-- _law_world(bag, terms, most): bag, terms, most, size, kinds, roles, role, pairs, kind, j, k -/
def t_law_world : XSs := (.cons (.asg (.bop 0 (.int 1) (.call j_law_draw (.cons (.var 0) (.cons (.var 2) .nil)))) (.nm 3))
  (.cons (.setLc 4 (.fn 0 (.cons (.ix 0 (.var 1) (.int 1)) .nil)) (.nm 8) .nil (.lcb 5 (.fn 0 (.cons (.var 3) .nil)) (.nm 9) (.cons (.cop 0 (.call j_law_draw (.cons (.var 0) (.cons (.int 2) .nil))) (.int 0)) .nil) (.var 9) [("j", 9)]) [("kind", 8)])
  (.cons (.asg (.lst .nil) (.nm 5))
  (.cons (.for_ (.fn 0 (.cons (.ix 0 (.var 1) (.int 2)) .nil)) (.nm 6) [6] (.cons (.asg (.bc 13 (.cons (.lc (.fn 0 (.cons (.call j_law_draw (.cons (.var 0) (.cons (.bop 2 (.int 2) (.var 3)) .nil))) .nil)) (.nm 10) .nil (.tup (.cons (.tup (.cons (.call j_law_draw (.cons (.var 0) (.cons (.var 3) .nil))) (.cons (.call j_law_draw (.cons (.var 0) (.cons (.var 3) .nil))) .nil))) (.cons (.int 1) .nil))) [("k", 10)]) .nil)) (.nm 7))
  (.cons (.expr (.bm 0 (.var 5) (.cons (.bc 4 (.cons (.bc 16 (.cons (.var 7) .nil)) .nil)) .nil)))
  .nil)))
  (.cons (.ret (.tup (.cons (.str "world") (.cons (.var 3) (.cons (.bc 4 (.cons (.var 4) .nil)) (.cons (.bc 4 (.cons (.var 5) .nil)) .nil))))))
  .nil)))))
abbrev s26 : Stmt := topS 40
def d26 : DefE := ⟨"_law_world", "_law_world", s26, ["bag", "terms", "most"], ["bag", "terms", "most", "size", "kinds", "roles", "role", "pairs", "kind", "j", "k"], t_law_world⟩
/-- _law_spoilt(bag, value, odd, down): bag, value, odd, down, at, pick -/
def t_law_spoilt : XSs := (.cons (.iff (.ors (.cons (.cop 0 (.var 3) (.int 0)) (.cons (.not (.val (.isi "tuple" (.var 1)))) (.cons (.cop 0 (.bc 0 (.cons (.var 1) .nil)) (.int 0)) (.cons (.cop 0 (.call j_law_draw (.cons (.var 0) (.cons (.int 4) .nil))) (.int 0)) .nil))))) (.cons (.ret (.var 2))
  .nil) .nil)
  (.cons (.asg (.call j_law_draw (.cons (.var 0) (.cons (.bc 0 (.cons (.var 1) .nil)) .nil))) (.nm 4))
  (.cons (.asg (.call j_law_draw (.cons (.var 0) (.cons (.int 9) .nil))) (.nm 5))
  (.cons (.iff (.cop 0 (.var 5) (.int 0)) (.cons (.ret (.bop 0 (.sl (.var 1) .none (.some (.var 4))) (.sl (.var 1) (.some (.bop 0 (.var 4) (.int 1))) .none)))
  .nil) .nil)
  (.cons (.iff (.cop 0 (.var 5) (.int 1)) (.cons (.ret (.bop 0 (.bop 0 (.sl (.var 1) .none (.some (.var 4))) (.tup (.cons (.var 2) .nil))) (.sl (.var 1) (.some (.var 4)) .none)))
  .nil) .nil)
  (.cons (.iff (.cop 0 (.var 5) (.int 2)) (.cons (.ret (.bop 0 (.sl (.var 1) .none (.some (.bop 0 (.var 4) (.int 1)))) (.sl (.var 1) (.some (.var 4)) .none)))
  .nil) .nil)
  (.cons (.iff (.cop 0 (.var 5) (.int 3)) (.cons (.ret (.bop 0 (.bop 0 (.bop 0 (.sl (.var 1) .none (.some (.var 4))) (.sl (.var 1) (.some (.bop 0 (.var 4) (.int 1))) (.some (.bop 0 (.var 4) (.int 2))))) (.sl (.var 1) (.some (.var 4)) (.some (.bop 0 (.var 4) (.int 1))))) (.sl (.var 1) (.some (.bop 0 (.var 4) (.int 2))) .none)))
  .nil) .nil)
  (.cons (.iff (.cop 0 (.var 5) (.int 4)) (.cons (.ret (.bc 3 (.cons (.var 1) .nil)))
  .nil) .nil)
  (.cons (.ret (.bop 0 (.bop 0 (.sl (.var 1) .none (.some (.var 4))) (.tup (.cons (.call j_law_spoilt (.cons (.var 0) (.cons (.ix 0 (.var 1) (.var 4)) (.cons (.var 2) (.cons (.bop 1 (.var 3) (.int 1)) .nil))))) .nil))) (.sl (.var 1) (.some (.bop 0 (.var 4) (.int 1))) .none)))
  .nil)))))))))
abbrev s27 : Stmt := topS 41
def d27 : DefE := ⟨"_law_spoilt", "_law_spoilt", s27, ["bag", "value", "odd", "down"], ["bag", "value", "odd", "down", "at", "pick"], t_law_spoilt⟩
/-- _law_is_int(value, low, high): value, low, high -/
def t_law_is_int : XSs := (.cons (.ret (.ands (.cons (.isi "int" (.var 0)) (.cons (.not (.isi "bool" (.var 0))) (.cons (.cop 3 (.var 1) (.var 0)) (.cons (.cop 3 (.var 0) (.var 2)) .nil))))))
  .nil)
abbrev s28 : Stmt := topS 42
def d28 : DefE := ⟨"_law_is_int", "_law_is_int", s28, ["value", "low", "high"], ["value", "low", "high"], t_law_is_int⟩
/-- _law_form(value): value -/
def t_law_form : XSs := (.cons (.iff (.ors (.cons (.not (.val (.isi "tuple" (.var 0)))) (.cons (.cop 0 (.bc 0 (.cons (.var 0) .nil)) (.int 0)) (.cons (.not (.val (.isi "str" (.ix 0 (.var 0) (.int 0))))) .nil)))) (.cons (.ret (.tup (.cons (.str "") (.cons (.int 0) .nil))))
  .nil) .nil)
  (.cons (.ret (.tup (.cons (.ix 0 (.var 0) (.int 0)) (.cons (.bc 0 (.cons (.var 0) .nil)) .nil))))
  .nil))
abbrev s29 : Stmt := topS 43
def d29 : DefE := ⟨"_law_form", "_law_form", s29, ["value"], ["value"], t_law_form⟩
/-- _law_is_term(s, value, kinds, roles, left): s, value, kinds, roles, left, form -/
def t_law_is_term : XSs := (.cons (.asg (.bop 0 (.ix 1 (.var 0) (.str "many")) (.int 1)) (.sub 1 (.var 0) (.str "many")))
  (.cons (.iff (.ors (.cons (.cop 0 (.var 4) (.int 0)) (.cons (.cop 4 (.ix 1 (.var 0) (.str "many")) (.int 60)) .nil))) (.cons (.ret (.bl false))
  .nil) .nil)
  (.cons (.asg (.call j_law_form (.cons (.var 1) .nil)) (.nm 5))
  (.cons (.iff (.cop 6 (.var 5) (.lst (.cons (.tup (.cons (.str "any") (.cons (.int 1) .nil))) (.cons (.tup (.cons (.str "none") (.cons (.int 1) .nil))) .nil)))) (.cons (.ret (.bl true))
  .nil) .nil)
  (.cons (.iff (.cop 0 (.var 5) (.tup (.cons (.str "kind") (.cons (.int 2) .nil)))) (.cons (.ret (.call j_law_is_int (.cons (.ix 0 (.var 1) (.int 1)) (.cons (.int 0) (.cons (.bop 1 (.var 2) (.int 1)) .nil)))))
  .nil) .nil)
  (.cons (.iff (.cop 0 (.var 5) (.tup (.cons (.str "some") (.cons (.int 3) .nil)))) (.cons (.ret (.ands (.cons (.call j_law_is_int (.cons (.ix 0 (.var 1) (.int 1)) (.cons (.int 0) (.cons (.bop 1 (.var 3) (.int 1)) .nil)))) (.cons (.call j_law_is_term (.cons (.var 0) (.cons (.ix 0 (.var 1) (.int 2)) (.cons (.var 2) (.cons (.var 3) (.cons (.bop 1 (.var 4) (.int 1)) .nil)))))) .nil))))
  .nil) .nil)
  (.cons (.iff (.cop 1 (.var 5) (.tup (.cons (.str "both") (.cons (.int 3) .nil)))) (.cons (.ret (.bl false))
  .nil) .nil)
  (.cons (.ret (.ands (.cons (.call j_law_is_term (.cons (.var 0) (.cons (.ix 0 (.var 1) (.int 1)) (.cons (.var 2) (.cons (.var 3) (.cons (.bop 1 (.var 4) (.int 1)) .nil)))))) (.cons (.call j_law_is_term (.cons (.var 0) (.cons (.ix 0 (.var 1) (.int 2)) (.cons (.var 2) (.cons (.var 3) (.cons (.bop 1 (.var 4) (.int 1)) .nil)))))) .nil))))
  .nil))))))))
abbrev s30 : Stmt := topS 44
def d30 : DefE := ⟨"_law_is_term", "_law_is_term", s30, ["s", "value", "kinds", "roles", "left"], ["s", "value", "kinds", "roles", "left", "form"], t_law_is_term⟩
/-- _law_is_axiom(value, kinds, roles, sizes): value, kinds, roles, sizes, form, one, s, role -/
def t_law_is_axiom : XSs := (.cons (.asg (.call j_law_form (.cons (.var 0) .nil)) (.nm 4))
  (.cons (.iff (.cop 0 (.var 4) (.tup (.cons (.str "is") (.cons (.int 3) .nil)))) (.cons (.for_ (.seq (.sl (.var 0) (.some (.int 1)) .none)) (.nm 5) [5] (.cons (.asg (.dkc "many" 0) (.nm 6))
  (.cons (.iff (.not (.val (.call j_law_is_term (.cons (.var 6) (.cons (.var 5) (.cons (.var 1) (.cons (.var 2) (.cons (.int 20) .nil)))))))) (.cons (.ret (.bl false))
  .nil) .nil)
  (.cons (.expr (.bm 0 (.var 3) (.cons (.ix 1 (.var 6) (.str "many")) .nil)))
  .nil))))
  (.cons (.ret (.bl true))
  .nil)) .nil)
  (.cons (.ret (.ands (.cons (.cop 6 (.var 4) (.lst (.cons (.tup (.cons (.str "within") (.cons (.int 3) .nil))) (.cons (.tup (.cons (.str "chain") (.cons (.int 4) .nil))) .nil)))) (.cons (.cop 7 (.bl false) (.lc (.seq (.sl (.var 0) (.some (.int 1)) .none)) (.nm 7) .nil (.call j_law_is_int (.cons (.var 7) (.cons (.int 0) (.cons (.bop 1 (.var 2) (.int 1)) .nil)))) [("role", 7)])) .nil))))
  .nil)))
abbrev s31 : Stmt := topS 45
def d31 : DefE := ⟨"_law_is_axiom", "_law_is_axiom", s31, ["value", "kinds", "roles", "sizes"], ["value", "kinds", "roles", "sizes", "form", "one", "s", "role"], t_law_is_axiom⟩
/-- _law_is_terms(value): value, sizes, axiom, j -/
def t_law_is_terms : XSs := (.cons (.iff (.ors (.cons (.cop 1 (.call j_law_form (.cons (.var 0) .nil)) (.tup (.cons (.str "terms") (.cons (.int 4) .nil)))) (.cons (.not (.val (.call j_law_is_int (.cons (.ix 0 (.var 0) (.int 1)) (.cons (.int 1) (.cons (.int 16) .nil)))))) (.cons (.not (.val (.call j_law_is_int (.cons (.ix 0 (.var 0) (.int 2)) (.cons (.int 0) (.cons (.int 6) .nil)))))) .nil)))) (.cons (.ret (.bl false))
  .nil) .nil)
  (.cons (.iff (.ors (.cons (.not (.val (.isi "tuple" (.ix 0 (.var 0) (.int 3))))) (.cons (.cop 4 (.bc 0 (.cons (.ix 0 (.var 0) (.int 3)) .nil)) (.int 40)) .nil))) (.cons (.ret (.bl false))
  .nil) .nil)
  (.cons (.asg (.lst .nil) (.nm 1))
  (.cons (.for_ (.seq (.ix 0 (.var 0) (.int 3))) (.nm 2) [2] (.cons (.iff (.not (.val (.call j_law_is_axiom (.cons (.var 2) (.cons (.ix 0 (.var 0) (.int 1)) (.cons (.ix 0 (.var 0) (.int 2)) (.cons (.var 1) .nil))))))) (.cons (.ret (.bl false))
  .nil) .nil)
  .nil))
  (.cons (.ret (.ands (.cons (.cop 0 (.lc (.fn 0 (.cons (.bc 0 (.cons (.ix 0 (.var 0) (.int 3)) .nil)) .nil)) (.nm 3) (.cons (.cop 6 (.ix 0 (.ix 0 (.var 0) (.int 3)) (.var 3)) (.sl (.ix 0 (.var 0) (.int 3)) .none (.some (.var 3)))) .nil) (.var 3) [("j", 3)]) (.lst .nil)) (.cons (.cop 3 (.bc 9 (.cons (.var 1) .nil)) (.int 400)) .nil))))
  .nil)))))
abbrev s32 : Stmt := topS 46
def d32 : DefE := ⟨"_law_is_terms", "_law_is_terms", s32, ["value"], ["value", "sizes", "axiom", "j"], t_law_is_terms⟩
/-- _law_up(rows): rows, j -/
def t_law_up : XSs := (.cons (.ret (.cop 7 (.bl false) (.lc (.fn 0 (.cons (.bop 1 (.bc 0 (.cons (.var 0) .nil)) (.int 1)) .nil)) (.nm 1) .nil (.cop 10 (.ix 0 (.var 0) (.var 1)) (.ix 0 (.var 0) (.bop 0 (.var 1) (.int 1)))) [("j", 1)])))
  .nil)
abbrev s33 : Stmt := topS 47
def d33 : DefE := ⟨"_law_up", "_law_up", s33, ["rows"], ["rows", "j"], t_law_up⟩
/-- _law_is_world(terms, value): terms, value, things, pairs, pair, one -/
def t_law_is_world : XSs := (.cons (.iff (.ors (.cons (.not (.val (.call j_law_is_terms (.cons (.var 0) .nil)))) (.cons (.cop 1 (.call j_law_form (.cons (.var 1) .nil)) (.tup (.cons (.str "world") (.cons (.int 4) .nil)))) (.cons (.not (.val (.call j_law_is_int (.cons (.ix 0 (.var 1) (.int 1)) (.cons (.int 1) (.cons (.int 200) .nil)))))) .nil)))) (.cons (.ret (.bl false))
  .nil) .nil)
  (.cons (.iff (.ors (.cons (.not (.val (.isi "tuple" (.ix 0 (.var 1) (.int 2))))) (.cons (.not (.val (.isi "tuple" (.ix 0 (.var 1) (.int 3))))) (.cons (.cop 1 (.bc 0 (.cons (.ix 0 (.var 1) (.int 2)) .nil)) (.ix 0 (.var 0) (.int 1))) (.cons (.cop 1 (.bc 0 (.cons (.ix 0 (.var 1) (.int 3)) .nil)) (.ix 0 (.var 0) (.int 2))) .nil))))) (.cons (.ret (.bl false))
  .nil) .nil)
  (.cons (.for_ (.seq (.ix 0 (.var 1) (.int 2))) (.nm 2) [2] (.cons (.iff (.ors (.cons (.not (.val (.isi "tuple" (.var 2)))) (.cons (.cop 6 (.bl false) (.lc (.seq (.var 2)) (.nm 5) .nil (.call j_law_is_int (.cons (.var 5) (.cons (.int 0) (.cons (.bop 1 (.ix 0 (.var 1) (.int 1)) (.int 1)) .nil)))) [("one", 5)])) (.cons (.not (.val (.call j_law_up (.cons (.var 2) .nil)))) .nil)))) (.cons (.ret (.bl false))
  .nil) .nil)
  .nil))
  (.cons (.for_ (.seq (.ix 0 (.var 1) (.int 3))) (.nm 3) [3] (.cons (.iff (.not (.val (.isi "tuple" (.var 3)))) (.cons (.ret (.bl false))
  .nil) .nil)
  (.cons (.for_ (.seq (.var 3)) (.nm 4) [4] (.cons (.iff (.ors (.cons (.not (.val (.isi "tuple" (.var 4)))) (.cons (.cop 1 (.bc 0 (.cons (.var 4) .nil)) (.int 2)) (.cons (.cop 6 (.bl false) (.lc (.seq (.var 4)) (.nm 5) .nil (.call j_law_is_int (.cons (.var 5) (.cons (.int 0) (.cons (.bop 1 (.ix 0 (.var 1) (.int 1)) (.int 1)) .nil)))) [("one", 5)])) .nil)))) (.cons (.ret (.bl false))
  .nil) .nil)
  .nil))
  (.cons (.iff (.not (.val (.call j_law_up (.cons (.var 3) .nil)))) (.cons (.ret (.bl false))
  .nil) .nil)
  .nil))))
  (.cons (.ret (.bl true))
  .nil)))))
abbrev s34 : Stmt := topS 48
def d34 : DefE := ⟨"_law_is_world", "_law_is_world", s34, ["terms", "value"], ["terms", "value", "things", "pairs", "pair", "one"], t_law_is_world⟩
/-- _law_told(terms, world, term): terms, world, term -/
def t_law_told : XSs := (.cons (.try_ excL (.cons (.expr (.call j_things_of (.cons (.var 0) (.cons (.var 1) (.cons (.var 2) .nil)))))
  .nil) [("BadTerms", (.str "terms")), ("BadWorld", (.str "world")), ("BadTerm", (.str "term"))])
  (.cons (.ret (.str "right"))
  .nil))
abbrev s35 : Stmt := topS 49
def d35 : DefE := ⟨"_law_told", "_law_told", s35, ["terms", "world", "term"], ["terms", "world", "term"], t_law_told⟩
/-- _law_tall(bag): bag, term, k -/
def t_law_tall : XSs := (.cons (.asg (.tup (.cons (.str "kind") (.cons (.int 0) .nil))) (.nm 1))
  (.cons (.for_ (.fn 0 (.cons (.call j_law_one (.cons (.var 0) (.cons (.lst (.cons (.int 18) (.cons (.int 19) (.cons (.int 20) (.cons (.int 28) (.cons (.int 30) (.cons (.int 200) .nil))))))) .nil))) .nil)) (.nm 2) [2] (.cons (.asg (.call j_law_one (.cons (.var 0) (.cons (.lst (.cons (.tup (.cons (.str "both") (.cons (.var 1) (.cons (.tup (.cons (.str "any") .nil)) .nil)))) (.cons (.tup (.cons (.str "some") (.cons (.int 0) (.cons (.var 1) .nil)))) .nil))) .nil))) (.nm 1))
  .nil))
  (.cons (.ret (.var 1))
  .nil)))
abbrev s36 : Stmt := topS 50
def d36 : DefE := ⟨"_law_tall", "_law_tall", s36, ["bag"], ["bag", "term", "k"], t_law_tall⟩
/-- _law_many(bag): bag, axioms, k, term, j -/
def t_law_many : XSs := (.cons (.asg (.lst .nil) (.nm 1))
  (.cons (.for_ (.fn 0 (.cons (.call j_law_one (.cons (.var 0) (.cons (.lst (.cons (.int 12) (.cons (.int 39) (.cons (.int 40) (.cons (.int 41) .nil))))) .nil))) .nil)) (.nm 2) [2] (.cons (.asg (.tup (.cons (.str "kind") (.cons (.call j_law_draw (.cons (.var 0) (.cons (.int 16) .nil))) .nil))) (.nm 3))
  (.cons (.for_ (.fn 0 (.cons (.call j_law_one (.cons (.var 0) (.cons (.lst (.cons (.int 1) (.cons (.int 3) (.cons (.int 4) .nil)))) .nil))) .nil)) (.nm 4) [4] (.cons (.asg (.tup (.cons (.str "both") (.cons (.var 3) (.cons (.tup (.cons (.str "kind") (.cons (.bop 0 (.bop 2 (.bop 3 (.var 2) (.int 16)) (.int 4)) (.var 4)) .nil))) .nil)))) (.nm 3))
  .nil))
  (.cons (.expr (.bm 0 (.var 1) (.cons (.tup (.cons (.str "is") (.cons (.tup (.cons (.str "some") (.cons (.bop 3 (.var 2) (.int 8)) (.cons (.tup (.cons (.str "kind") (.cons (.bop 1 (.var 2) (.bop 2 (.bop 3 (.var 2) (.int 8)) (.int 8))) .nil))) .nil)))) (.cons (.var 3) .nil)))) .nil)))
  .nil))))
  (.cons (.ret (.tup (.cons (.str "terms") (.cons (.int 16) (.cons (.int 6) (.cons (.bc 4 (.cons (.var 1) .nil)) .nil))))))
  .nil)))
abbrev s37 : Stmt := topS 51
def d37 : DefE := ⟨"_law_many", "_law_many", s37, ["bag"], ["bag", "axioms", "k", "term", "j"], t_law_many⟩
/-- law(script): script, odd, k, bag, terms, world, term, turn, good, within, due, one -/
def t_law : XSs := (.cons (.asg (.lst (.cons (.int 0) (.cons (.int 1) (.cons (.neg (.int 1)) (.cons (.int 6) (.cons (.int 16) (.cons (.int 17) (.cons (.bl true) (.cons .non (.cons (.str "x") (.cons (.tup .nil) (.cons (.tup (.cons (.str "any") .nil)) (.cons (.tup (.cons (.str "kind") (.cons (.int 0) .nil))) (.cons (.tup (.cons (.str "some") (.cons (.int 0) .nil))) (.cons (.tup (.cons (.str "is") (.cons (.tup (.cons (.str "any") .nil)) (.cons (.tup (.cons (.str "any") .nil)) .nil)))) (.cons (.str "world") (.cons (.lst (.cons (.int 0) .nil)) .nil))))))))))))))))) (.nm 1))
  (.cons (.for_ (.fn 0 (.cons (.bc 6 (.cons (.int 1) (.cons (.bc 8 (.cons (.int 8) (.cons (.bc 0 (.cons (.var 0) .nil)) .nil))) .nil))) .nil)) (.nm 2) [2] (.cons (.asg (.call j_law_bag (.cons (.var 0) (.cons (.var 2) .nil))) (.nm 3))
  (.cons (.asg (.ite (.cop 4 (.call j_law_draw (.cons (.var 3) (.cons (.int 5) .nil))) (.int 0)) (.call j_law_terms (.cons (.var 3) (.cons (.int 7) .nil))) (.call j_law_many (.cons (.var 3) .nil))) (.nm 4))
  (.cons (.asg (.call j_law_world (.cons (.var 3) (.cons (.tup (.cons (.str "terms") (.cons (.ix 0 (.var 4) (.int 1)) (.cons (.ix 0 (.var 4) (.int 2)) (.cons (.tup .nil) .nil))))) (.cons (.int 5) .nil)))) (.nm 5))
  (.cons (.asg (.ite (.cop 4 (.call j_law_draw (.cons (.var 3) (.cons (.int 3) .nil))) (.int 0)) (.call j_law_term (.cons (.var 3) (.cons (.ix 0 (.var 4) (.int 1)) (.cons (.ix 0 (.var 4) (.int 2)) (.cons (.int 4) .nil))))) (.call j_law_tall (.cons (.var 3) .nil))) (.nm 6))
  (.cons (.for_ (.fn 0 (.cons (.call j_law_draw (.cons (.var 3) (.cons (.int 3) .nil))) .nil)) (.nm 7) [7] (.cons (.asg (.call j_law_spoilt (.cons (.var 3) (.cons (.var 4) (.cons (.ix 0 (.var 1) (.call j_law_draw (.cons (.var 3) (.cons (.int 16) .nil)))) (.cons (.int 6) .nil))))) (.nm 4))
  .nil))
  (.cons (.for_ (.fn 0 (.cons (.call j_law_draw (.cons (.var 3) (.cons (.int 3) .nil))) .nil)) (.nm 7) [7] (.cons (.asg (.call j_law_spoilt (.cons (.var 3) (.cons (.var 5) (.cons (.ix 0 (.var 1) (.call j_law_draw (.cons (.var 3) (.cons (.int 16) .nil)))) (.cons (.int 4) .nil))))) (.nm 5))
  (.cons (.asg (.call j_law_spoilt (.cons (.var 3) (.cons (.var 6) (.cons (.ix 0 (.var 1) (.call j_law_draw (.cons (.var 3) (.cons (.int 16) .nil)))) (.cons (.int 6) .nil))))) (.nm 6))
  .nil)))
  (.cons (.asg (.call j_law_is_terms (.cons (.var 4) .nil)) (.nm 8))
  (.cons (.iff (.ors (.cons (.cop 1 (.bc 17 (.cons (.call j_is_terms (.cons (.var 4) .nil)) .nil)) (.bc 17 (.cons (.var 8) .nil))) (.cons (.cop 1 (.bc 17 (.cons (.call j_is_world (.cons (.var 4) (.cons (.var 5) .nil))) .nil)) (.bc 17 (.cons (.call j_law_is_world (.cons (.var 4) (.cons (.var 5) .nil))) .nil))) .nil))) (.cons (.ret (.bl false))
  .nil) .nil)
  (.cons (.asg (.ands (.cons (.var 8) (.cons (.call j_law_is_term (.cons (.dkc "many" 0) (.cons (.var 6) (.cons (.ix 0 (.var 4) (.int 1)) (.cons (.ix 0 (.var 4) (.int 2)) (.cons (.int 20) .nil)))))) .nil))) (.nm 9))
  (.cons (.iff (.cop 1 (.bc 17 (.cons (.call j_is_term (.cons (.var 4) (.cons (.var 6) .nil))) .nil)) (.bc 17 (.cons (.var 9) .nil))) (.cons (.ret (.bl false))
  .nil) .nil)
  (.cons (.asg (.ite (.not (.val (.var 8))) (.str "terms") (.ite (.not (.val (.call j_law_is_world (.cons (.var 4) (.cons (.var 5) .nil))))) (.str "world") (.ite (.val (.var 9)) (.str "right") (.str "term")))) (.nm 10))
  (.cons (.iff (.cop 1 (.call j_law_told (.cons (.var 4) (.cons (.var 5) (.cons (.var 6) .nil)))) (.var 10)) (.cons (.ret (.bl false))
  .nil) .nil)
  .nil)))))))))))))
  (.cons (.ret (.ands (.cons (.cop 0 (.lc (.seq (.lst (.cons .non (.cons (.tup .nil) (.cons (.str "terms") (.cons (.int 5) .nil)))))) (.nm 11) .nil (.call j_is_terms (.cons (.var 11) .nil)) [("one", 11)]) (.bop 2 (.lst (.cons (.bl false) .nil)) (.int 4))) (.cons (.cop 8 (.call j_is_term (.cons .non (.cons (.tup (.cons (.str "any") .nil)) .nil))) (.bl false)) (.cons (.cop 8 (.call j_is_world (.cons (.tup .nil) (.cons (.tup .nil) .nil))) (.bl false)) .nil)))))
  .nil)))
abbrev s38 : Stmt := topS 52
def d38 : DefE := ⟨"law", "law", s38, ["script"], ["script", "odd", "k", "bag", "terms", "world", "term", "turn", "good", "within", "due", "one"], t_law⟩
def D : List DefE := [d0, d1, d2, d3, d4, d5, d6, d7, d8, d9, d10, d11, d12, d13, d14, d15, d16, d17, d18, d19, d20, d21, d22, d23, d24, d25, d26, d27, d28, d29, d30, d31, d32, d33, d34, d35, d36, d37, d38]
def lib (C0 : Addr) : Lib where
  fns := [some ("is_integer" : Str), some ("form_of" : Str), some ("are_ascending" : Str), none, none, some ("is_term_over" : Str), some ("size_of" : Str), some ("total_of" : Str), some ("is_axiom" : Str), some ("is_terms" : Str), some ("is_term" : Str), some ("are_things" : Str), some ("are_pairs" : Str), some ("is_world_of" : Str), some ("is_world" : Str), some ("check_terms" : Str), some ("check_term" : Str), some ("check_world" : Str), some ("members" : Str), some ("things_of" : Str), some ("_law_bag" : Str), some ("_law_draw" : Str), some ("_law_one" : Str), some ("_law_term" : Str), some ("_law_axiom" : Str), some ("_law_terms" : Str), some ("_law_world" : Str), some ("_law_spoilt" : Str), some ("_law_is_int" : Str), some ("_law_form" : Str), some ("_law_is_term" : Str), some ("_law_is_axiom" : Str), some ("_law_is_terms" : Str), some ("_law_up" : Str), some ("_law_is_world" : Str), some ("_law_told" : Str), some ("_law_tall" : Str), some ("_law_many" : Str), some ("law" : Str)]
  cst := [("MOST_SIZE", .int 60), ("MOST_DEPTH", .int 20), ("MOST_TOTAL", .int 400), ("MOST_AXIOMS", .int 40), ("MOST_ROLES", .int 6), ("MOST_KINDS", .int 16), ("MOST_THINGS", .int 200)]
  bops := stdBops
  augs := stdAugs
  cops := stdCops
  ixs := stdIxs
  sets := stdSets
  bcs := stdBcs
  lfs := stdLfs
  bms := stdBms
  its := stdIts
  cls := [("Form", C0, 3)]
  meths := [(0, "is_good", 4)]
  attrs := [(0, "_many"), (0, "_roles"), (0, "_kinds")]
  excs := excL
  spcs := stdSpcs
  tyns := stdTyns
  dfs := []
def libA (c : List Addr) : Lib := lib (c.getD 0 0)
abbrev Gm (c : List Addr) (n j : Nat) : MSp := Gam (libA c) D n j
theorem lb_bops (c : List Addr) : (libA c).bops = stdBops := rfl
theorem lb_augs (c : List Addr) : (libA c).augs = stdAugs := rfl
theorem lb_cops (c : List Addr) : (libA c).cops = stdCops := rfl
theorem lb_ixs (c : List Addr) : (libA c).ixs = stdIxs := rfl
theorem lb_sets (c : List Addr) : (libA c).sets = stdSets := rfl
theorem lb_bcs (c : List Addr) : (libA c).bcs = stdBcs := rfl
theorem lb_lfs (c : List Addr) : (libA c).lfs = stdLfs := rfl
theorem lb_bms (c : List Addr) : (libA c).bms = stdBms := rfl
theorem lb_its (c : List Addr) : (libA c).its = stdIts := rfl
theorem lb_spcs (c : List Addr) : (libA c).spcs = stdSpcs := rfl
theorem lb_cst0 (c : List Addr) : (libA c).cst[0]? = some (("MOST_SIZE" : Str), W.int 60) := rfl
theorem lb_cst1 (c : List Addr) : (libA c).cst[1]? = some (("MOST_DEPTH" : Str), W.int 20) := rfl
theorem lb_cst2 (c : List Addr) : (libA c).cst[2]? = some (("MOST_TOTAL" : Str), W.int 400) := rfl
theorem lb_cst3 (c : List Addr) : (libA c).cst[3]? = some (("MOST_AXIOMS" : Str), W.int 40) := rfl
theorem lb_cst4 (c : List Addr) : (libA c).cst[4]? = some (("MOST_ROLES" : Str), W.int 6) := rfl
theorem lb_cst5 (c : List Addr) : (libA c).cst[5]? = some (("MOST_KINDS" : Str), W.int 16) := rfl
theorem lb_cst6 (c : List Addr) : (libA c).cst[6]? = some (("MOST_THINGS" : Str), W.int 200) := rfl
theorem lb_clsA0 (c : List Addr) : clsA (libA c) 0 = c.getD 0 0 := rfl
theorem lb_clsI0 (c : List Addr) : clsI (libA c) 0 = j_Form_init := rfl
theorem sc0 : FnScope d0.N d0.ps (defScope d0.st) := ⟨rfl, rfl, rfl, by decide +kernel, rfl, by decide +kernel, by decide +kernel⟩
theorem ck0 (C0 : Addr) : cSs (lib C0) ⟨d0.N, defScope d0.st, fun _ => true⟩ d0.t (defBody d0.st) = true := by kernel_rfl
theorem sc1 : FnScope d1.N d1.ps (defScope d1.st) := ⟨rfl, rfl, rfl, by decide +kernel, rfl, by decide +kernel, by decide +kernel⟩
theorem ck1 (C0 : Addr) : cSs (lib C0) ⟨d1.N, defScope d1.st, fun _ => true⟩ d1.t (defBody d1.st) = true := by kernel_rfl
theorem sc2 : FnScope d2.N d2.ps (defScope d2.st) := ⟨rfl, rfl, rfl, by decide +kernel, rfl, by decide +kernel, by decide +kernel⟩
theorem ck2 (C0 : Addr) : cSs (lib C0) ⟨d2.N, defScope d2.st, fun _ => true⟩ d2.t (defBody d2.st) = true := by kernel_rfl
theorem sc3 : FnScope d3.N d3.ps (defScope d3.st) := ⟨rfl, rfl, rfl, by decide +kernel, rfl, by decide +kernel, by decide +kernel⟩
theorem ck3 (C0 : Addr) : cSs (lib C0) ⟨d3.N, defScope d3.st, fun _ => true⟩ d3.t (defBody d3.st) = true := by kernel_rfl
theorem sc4 : FnScope d4.N d4.ps (defScope d4.st) := ⟨rfl, rfl, rfl, by decide +kernel, rfl, by decide +kernel, by decide +kernel⟩
theorem ck4 (C0 : Addr) : cSs (lib C0) ⟨d4.N, defScope d4.st, fun _ => true⟩ d4.t (defBody d4.st) = true := by kernel_rfl
theorem sc5 : FnScope d5.N d5.ps (defScope d5.st) := ⟨rfl, rfl, rfl, by decide +kernel, rfl, by decide +kernel, by decide +kernel⟩
theorem ck5 (C0 : Addr) : cSs (lib C0) ⟨d5.N, defScope d5.st, fun _ => true⟩ d5.t (defBody d5.st) = true := by kernel_rfl
theorem sc6 : FnScope d6.N d6.ps (defScope d6.st) := ⟨rfl, rfl, rfl, by decide +kernel, rfl, by decide +kernel, by decide +kernel⟩
theorem ck6 (C0 : Addr) : cSs (lib C0) ⟨d6.N, defScope d6.st, fun _ => true⟩ d6.t (defBody d6.st) = true := by kernel_rfl
theorem sc7 : FnScope d7.N d7.ps (defScope d7.st) := ⟨rfl, rfl, rfl, by decide +kernel, rfl, by decide +kernel, by decide +kernel⟩
theorem ck7 (C0 : Addr) : cSs (lib C0) ⟨d7.N, defScope d7.st, fun _ => true⟩ d7.t (defBody d7.st) = true := by kernel_rfl
theorem sc8 : FnScope d8.N d8.ps (defScope d8.st) := ⟨rfl, rfl, rfl, by decide +kernel, rfl, by decide +kernel, by decide +kernel⟩
theorem ck8 (C0 : Addr) : cSs (lib C0) ⟨d8.N, defScope d8.st, fun _ => true⟩ d8.t (defBody d8.st) = true := by kernel_rfl
theorem sc9 : FnScope d9.N d9.ps (defScope d9.st) := ⟨rfl, rfl, rfl, by decide +kernel, rfl, by decide +kernel, by decide +kernel⟩
theorem ck9 (C0 : Addr) : cSs (lib C0) ⟨d9.N, defScope d9.st, fun _ => true⟩ d9.t (defBody d9.st) = true := by kernel_rfl
theorem sc10 : FnScope d10.N d10.ps (defScope d10.st) := ⟨rfl, rfl, rfl, by decide +kernel, rfl, by decide +kernel, by decide +kernel⟩
theorem ck10 (C0 : Addr) : cSs (lib C0) ⟨d10.N, defScope d10.st, fun _ => true⟩ d10.t (defBody d10.st) = true := by kernel_rfl
theorem sc11 : FnScope d11.N d11.ps (defScope d11.st) := ⟨rfl, rfl, rfl, by decide +kernel, rfl, by decide +kernel, by decide +kernel⟩
theorem ck11 (C0 : Addr) : cSs (lib C0) ⟨d11.N, defScope d11.st, fun _ => true⟩ d11.t (defBody d11.st) = true := by kernel_rfl
theorem sc12 : FnScope d12.N d12.ps (defScope d12.st) := ⟨rfl, rfl, rfl, by decide +kernel, rfl, by decide +kernel, by decide +kernel⟩
theorem ck12 (C0 : Addr) : cSs (lib C0) ⟨d12.N, defScope d12.st, fun _ => true⟩ d12.t (defBody d12.st) = true := by kernel_rfl
theorem sc13 : FnScope d13.N d13.ps (defScope d13.st) := ⟨rfl, rfl, rfl, by decide +kernel, rfl, by decide +kernel, by decide +kernel⟩
theorem ck13 (C0 : Addr) : cSs (lib C0) ⟨d13.N, defScope d13.st, fun _ => true⟩ d13.t (defBody d13.st) = true := by kernel_rfl
theorem sc14 : FnScope d14.N d14.ps (defScope d14.st) := ⟨rfl, rfl, rfl, by decide +kernel, rfl, by decide +kernel, by decide +kernel⟩
theorem ck14 (C0 : Addr) : cSs (lib C0) ⟨d14.N, defScope d14.st, fun _ => true⟩ d14.t (defBody d14.st) = true := by kernel_rfl
theorem sc15 : FnScope d15.N d15.ps (defScope d15.st) := ⟨rfl, rfl, rfl, by decide +kernel, rfl, by decide +kernel, by decide +kernel⟩
theorem ck15 (C0 : Addr) : cSs (lib C0) ⟨d15.N, defScope d15.st, fun _ => true⟩ d15.t (defBody d15.st) = true := by kernel_rfl
theorem sc16 : FnScope d16.N d16.ps (defScope d16.st) := ⟨rfl, rfl, rfl, by decide +kernel, rfl, by decide +kernel, by decide +kernel⟩
theorem ck16 (C0 : Addr) : cSs (lib C0) ⟨d16.N, defScope d16.st, fun _ => true⟩ d16.t (defBody d16.st) = true := by kernel_rfl
theorem sc17 : FnScope d17.N d17.ps (defScope d17.st) := ⟨rfl, rfl, rfl, by decide +kernel, rfl, by decide +kernel, by decide +kernel⟩
theorem ck17 (C0 : Addr) : cSs (lib C0) ⟨d17.N, defScope d17.st, fun _ => true⟩ d17.t (defBody d17.st) = true := by kernel_rfl
theorem sc18 : FnScope d18.N d18.ps (defScope d18.st) := ⟨rfl, rfl, rfl, by decide +kernel, rfl, by decide +kernel, by decide +kernel⟩
theorem ck18 (C0 : Addr) : cSs (lib C0) ⟨d18.N, defScope d18.st, fun _ => true⟩ d18.t (defBody d18.st) = true := by kernel_rfl
theorem sc19 : FnScope d19.N d19.ps (defScope d19.st) := ⟨rfl, rfl, rfl, by decide +kernel, rfl, by decide +kernel, by decide +kernel⟩
theorem ck19 (C0 : Addr) : cSs (lib C0) ⟨d19.N, defScope d19.st, fun _ => true⟩ d19.t (defBody d19.st) = true := by kernel_rfl
theorem sc20 : FnScope d20.N d20.ps (defScope d20.st) := ⟨rfl, rfl, rfl, by decide +kernel, rfl, by decide +kernel, by decide +kernel⟩
theorem ck20 (C0 : Addr) : cSs (lib C0) ⟨d20.N, defScope d20.st, fun _ => true⟩ d20.t (defBody d20.st) = true := by kernel_rfl
theorem sc21 : FnScope d21.N d21.ps (defScope d21.st) := ⟨rfl, rfl, rfl, by decide +kernel, rfl, by decide +kernel, by decide +kernel⟩
theorem ck21 (C0 : Addr) : cSs (lib C0) ⟨d21.N, defScope d21.st, fun _ => true⟩ d21.t (defBody d21.st) = true := by kernel_rfl
theorem sc22 : FnScope d22.N d22.ps (defScope d22.st) := ⟨rfl, rfl, rfl, by decide +kernel, rfl, by decide +kernel, by decide +kernel⟩
theorem ck22 (C0 : Addr) : cSs (lib C0) ⟨d22.N, defScope d22.st, fun _ => true⟩ d22.t (defBody d22.st) = true := by kernel_rfl
theorem sc23 : FnScope d23.N d23.ps (defScope d23.st) := ⟨rfl, rfl, rfl, by decide +kernel, rfl, by decide +kernel, by decide +kernel⟩
theorem ck23 (C0 : Addr) : cSs (lib C0) ⟨d23.N, defScope d23.st, fun _ => true⟩ d23.t (defBody d23.st) = true := by kernel_rfl
theorem sc24 : FnScope d24.N d24.ps (defScope d24.st) := ⟨rfl, rfl, rfl, by decide +kernel, rfl, by decide +kernel, by decide +kernel⟩
theorem ck24 (C0 : Addr) : cSs (lib C0) ⟨d24.N, defScope d24.st, fun _ => true⟩ d24.t (defBody d24.st) = true := by kernel_rfl
theorem sc25 : FnScope d25.N d25.ps (defScope d25.st) := ⟨rfl, rfl, rfl, by decide +kernel, rfl, by decide +kernel, by decide +kernel⟩
theorem ck25 (C0 : Addr) : cSs (lib C0) ⟨d25.N, defScope d25.st, fun _ => true⟩ d25.t (defBody d25.st) = true := by kernel_rfl
theorem sc26 : FnScope d26.N d26.ps (defScope d26.st) := ⟨rfl, rfl, rfl, by decide +kernel, rfl, by decide +kernel, by decide +kernel⟩
theorem ck26 (C0 : Addr) : cSs (lib C0) ⟨d26.N, defScope d26.st, fun _ => true⟩ d26.t (defBody d26.st) = true := by kernel_rfl
theorem sc27 : FnScope d27.N d27.ps (defScope d27.st) := ⟨rfl, rfl, rfl, by decide +kernel, rfl, by decide +kernel, by decide +kernel⟩
theorem ck27 (C0 : Addr) : cSs (lib C0) ⟨d27.N, defScope d27.st, fun _ => true⟩ d27.t (defBody d27.st) = true := by kernel_rfl
theorem sc28 : FnScope d28.N d28.ps (defScope d28.st) := ⟨rfl, rfl, rfl, by decide +kernel, rfl, by decide +kernel, by decide +kernel⟩
theorem ck28 (C0 : Addr) : cSs (lib C0) ⟨d28.N, defScope d28.st, fun _ => true⟩ d28.t (defBody d28.st) = true := by kernel_rfl
theorem sc29 : FnScope d29.N d29.ps (defScope d29.st) := ⟨rfl, rfl, rfl, by decide +kernel, rfl, by decide +kernel, by decide +kernel⟩
theorem ck29 (C0 : Addr) : cSs (lib C0) ⟨d29.N, defScope d29.st, fun _ => true⟩ d29.t (defBody d29.st) = true := by kernel_rfl
theorem sc30 : FnScope d30.N d30.ps (defScope d30.st) := ⟨rfl, rfl, rfl, by decide +kernel, rfl, by decide +kernel, by decide +kernel⟩
theorem ck30 (C0 : Addr) : cSs (lib C0) ⟨d30.N, defScope d30.st, fun _ => true⟩ d30.t (defBody d30.st) = true := by kernel_rfl
theorem sc31 : FnScope d31.N d31.ps (defScope d31.st) := ⟨rfl, rfl, rfl, by decide +kernel, rfl, by decide +kernel, by decide +kernel⟩
theorem ck31 (C0 : Addr) : cSs (lib C0) ⟨d31.N, defScope d31.st, fun _ => true⟩ d31.t (defBody d31.st) = true := by kernel_rfl
theorem sc32 : FnScope d32.N d32.ps (defScope d32.st) := ⟨rfl, rfl, rfl, by decide +kernel, rfl, by decide +kernel, by decide +kernel⟩
theorem ck32 (C0 : Addr) : cSs (lib C0) ⟨d32.N, defScope d32.st, fun _ => true⟩ d32.t (defBody d32.st) = true := by kernel_rfl
theorem sc33 : FnScope d33.N d33.ps (defScope d33.st) := ⟨rfl, rfl, rfl, by decide +kernel, rfl, by decide +kernel, by decide +kernel⟩
theorem ck33 (C0 : Addr) : cSs (lib C0) ⟨d33.N, defScope d33.st, fun _ => true⟩ d33.t (defBody d33.st) = true := by kernel_rfl
theorem sc34 : FnScope d34.N d34.ps (defScope d34.st) := ⟨rfl, rfl, rfl, by decide +kernel, rfl, by decide +kernel, by decide +kernel⟩
theorem ck34 (C0 : Addr) : cSs (lib C0) ⟨d34.N, defScope d34.st, fun _ => true⟩ d34.t (defBody d34.st) = true := by kernel_rfl
theorem sc35 : FnScope d35.N d35.ps (defScope d35.st) := ⟨rfl, rfl, rfl, by decide +kernel, rfl, by decide +kernel, by decide +kernel⟩
theorem ck35 (C0 : Addr) : cSs (lib C0) ⟨d35.N, defScope d35.st, fun _ => true⟩ d35.t (defBody d35.st) = true := by kernel_rfl
theorem sc36 : FnScope d36.N d36.ps (defScope d36.st) := ⟨rfl, rfl, rfl, by decide +kernel, rfl, by decide +kernel, by decide +kernel⟩
theorem ck36 (C0 : Addr) : cSs (lib C0) ⟨d36.N, defScope d36.st, fun _ => true⟩ d36.t (defBody d36.st) = true := by kernel_rfl
theorem sc37 : FnScope d37.N d37.ps (defScope d37.st) := ⟨rfl, rfl, rfl, by decide +kernel, rfl, by decide +kernel, by decide +kernel⟩
theorem ck37 (C0 : Addr) : cSs (lib C0) ⟨d37.N, defScope d37.st, fun _ => true⟩ d37.t (defBody d37.st) = true := by kernel_rfl
theorem sc38 : FnScope d38.N d38.ps (defScope d38.st) := ⟨rfl, rfl, rfl, by decide +kernel, rfl, by decide +kernel, by decide +kernel⟩
theorem ck38 (C0 : Addr) : cSs (lib C0) ⟨d38.N, defScope d38.st, fun _ => true⟩ d38.t (defBody d38.st) = true := by kernel_rfl
theorem chk (C0 : Addr) : ∀ d ∈ D, FnScope d.N d.ps (defScope d.st) ∧ cSs (lib C0) ⟨d.N, defScope d.st, fun _ => true⟩ d.t (defBody d.st) = true := by
  intro d h
  simp only [D, List.mem_cons, List.not_mem_nil, or_false] at h
  rcases h with rfl | rfl | rfl | rfl | rfl | rfl | rfl | rfl | rfl | rfl | rfl | rfl | rfl | rfl | rfl | rfl | rfl | rfl | rfl | rfl | rfl | rfl | rfl | rfl | rfl | rfl | rfl | rfl | rfl | rfl | rfl | rfl | rfl | rfl | rfl | rfl | rfl | rfl | rfl
  · exact ⟨sc0, ck0 C0⟩
  · exact ⟨sc1, ck1 C0⟩
  · exact ⟨sc2, ck2 C0⟩
  · exact ⟨sc3, ck3 C0⟩
  · exact ⟨sc4, ck4 C0⟩
  · exact ⟨sc5, ck5 C0⟩
  · exact ⟨sc6, ck6 C0⟩
  · exact ⟨sc7, ck7 C0⟩
  · exact ⟨sc8, ck8 C0⟩
  · exact ⟨sc9, ck9 C0⟩
  · exact ⟨sc10, ck10 C0⟩
  · exact ⟨sc11, ck11 C0⟩
  · exact ⟨sc12, ck12 C0⟩
  · exact ⟨sc13, ck13 C0⟩
  · exact ⟨sc14, ck14 C0⟩
  · exact ⟨sc15, ck15 C0⟩
  · exact ⟨sc16, ck16 C0⟩
  · exact ⟨sc17, ck17 C0⟩
  · exact ⟨sc18, ck18 C0⟩
  · exact ⟨sc19, ck19 C0⟩
  · exact ⟨sc20, ck20 C0⟩
  · exact ⟨sc21, ck21 C0⟩
  · exact ⟨sc22, ck22 C0⟩
  · exact ⟨sc23, ck23 C0⟩
  · exact ⟨sc24, ck24 C0⟩
  · exact ⟨sc25, ck25 C0⟩
  · exact ⟨sc26, ck26 C0⟩
  · exact ⟨sc27, ck27 C0⟩
  · exact ⟨sc28, ck28 C0⟩
  · exact ⟨sc29, ck29 C0⟩
  · exact ⟨sc30, ck30 C0⟩
  · exact ⟨sc31, ck31 C0⟩
  · exact ⟨sc32, ck32 C0⟩
  · exact ⟨sc33, ck33 C0⟩
  · exact ⟨sc34, ck34 C0⟩
  · exact ⟨sc35, ck35 C0⟩
  · exact ⟨sc36, ck36 C0⟩
  · exact ⟨sc37, ck37 C0⟩
  · exact ⟨sc38, ck38 C0⟩
theorem bd0 : BindsAll d0 := fun kV doc pm an cdv ct us (hl : us.length = ["value", "low", "high"].length) => match us, hl with | [_, _, _], _ => rfl
theorem bd1 : BindsAll d1 := fun kV doc pm an cdv ct us (hl : us.length = ["value"].length) => match us, hl with | [_], _ => rfl
theorem bd2 : BindsAll d2 := fun kV doc pm an cdv ct us (hl : us.length = ["rows"].length) => match us, hl with | [_], _ => rfl
theorem bd3 : BindsAll d3 := fun kV doc pm an cdv ct us (hl : us.length = ["self", "kinds", "roles"].length) => match us, hl with | [_, _, _], _ => rfl
theorem bd4 : BindsAll d4 := fun kV doc pm an cdv ct us (hl : us.length = ["self", "value", "left"].length) => match us, hl with | [_, _, _], _ => rfl
theorem bd5 : BindsAll d5 := fun kV doc pm an cdv ct us (hl : us.length = ["kinds", "roles", "value"].length) => match us, hl with | [_, _, _], _ => rfl
theorem bd6 : BindsAll d6 := fun kV doc pm an cdv ct us (hl : us.length = ["term"].length) => match us, hl with | [_], _ => rfl
theorem bd7 : BindsAll d7 := fun kV doc pm an cdv ct us (hl : us.length = ["axioms"].length) => match us, hl with | [_], _ => rfl
theorem bd8 : BindsAll d8 := fun kV doc pm an cdv ct us (hl : us.length = ["value", "kinds", "roles"].length) => match us, hl with | [_, _, _], _ => rfl
theorem bd9 : BindsAll d9 := fun kV doc pm an cdv ct us (hl : us.length = ["value"].length) => match us, hl with | [_], _ => rfl
theorem bd10 : BindsAll d10 := fun kV doc pm an cdv ct us (hl : us.length = ["terms", "value"].length) => match us, hl with | [_, _], _ => rfl
theorem bd11 : BindsAll d11 := fun kV doc pm an cdv ct us (hl : us.length = ["value", "size"].length) => match us, hl with | [_, _], _ => rfl
theorem bd12 : BindsAll d12 := fun kV doc pm an cdv ct us (hl : us.length = ["value", "size"].length) => match us, hl with | [_, _], _ => rfl
theorem bd13 : BindsAll d13 := fun kV doc pm an cdv ct us (hl : us.length = ["terms", "value"].length) => match us, hl with | [_, _], _ => rfl
theorem bd14 : BindsAll d14 := fun kV doc pm an cdv ct us (hl : us.length = ["terms", "value"].length) => match us, hl with | [_, _], _ => rfl
theorem bd15 : BindsAll d15 := fun kV doc pm an cdv ct us (hl : us.length = ["terms"].length) => match us, hl with | [_], _ => rfl
theorem bd16 : BindsAll d16 := fun kV doc pm an cdv ct us (hl : us.length = ["terms", "value"].length) => match us, hl with | [_, _], _ => rfl
theorem bd17 : BindsAll d17 := fun kV doc pm an cdv ct us (hl : us.length = ["terms", "value"].length) => match us, hl with | [_, _], _ => rfl
theorem bd18 : BindsAll d18 := fun kV doc pm an cdv ct us (hl : us.length = ["world", "term"].length) => match us, hl with | [_, _], _ => rfl
theorem bd19 : BindsAll d19 := fun kV doc pm an cdv ct us (hl : us.length = ["terms", "world", "C"].length) => match us, hl with | [_, _, _], _ => rfl
theorem bd20 : BindsAll d20 := fun kV doc pm an cdv ct us (hl : us.length = ["script", "k"].length) => match us, hl with | [_, _], _ => rfl
theorem bd21 : BindsAll d21 := fun kV doc pm an cdv ct us (hl : us.length = ["bag", "many"].length) => match us, hl with | [_, _], _ => rfl
theorem bd22 : BindsAll d22 := fun kV doc pm an cdv ct us (hl : us.length = ["bag", "row"].length) => match us, hl with | [_, _], _ => rfl
theorem bd23 : BindsAll d23 := fun kV doc pm an cdv ct us (hl : us.length = ["bag", "kinds", "roles", "left"].length) => match us, hl with | [_, _, _, _], _ => rfl
theorem bd24 : BindsAll d24 := fun kV doc pm an cdv ct us (hl : us.length = ["bag", "kinds", "roles"].length) => match us, hl with | [_, _, _], _ => rfl
theorem bd25 : BindsAll d25 := fun kV doc pm an cdv ct us (hl : us.length = ["bag", "most"].length) => match us, hl with | [_, _], _ => rfl
theorem bd26 : BindsAll d26 := fun kV doc pm an cdv ct us (hl : us.length = ["bag", "terms", "most"].length) => match us, hl with | [_, _, _], _ => rfl
theorem bd27 : BindsAll d27 := fun kV doc pm an cdv ct us (hl : us.length = ["bag", "value", "odd", "down"].length) => match us, hl with | [_, _, _, _], _ => rfl
theorem bd28 : BindsAll d28 := fun kV doc pm an cdv ct us (hl : us.length = ["value", "low", "high"].length) => match us, hl with | [_, _, _], _ => rfl
theorem bd29 : BindsAll d29 := fun kV doc pm an cdv ct us (hl : us.length = ["value"].length) => match us, hl with | [_], _ => rfl
theorem bd30 : BindsAll d30 := fun kV doc pm an cdv ct us (hl : us.length = ["s", "value", "kinds", "roles", "left"].length) => match us, hl with | [_, _, _, _, _], _ => rfl
theorem bd31 : BindsAll d31 := fun kV doc pm an cdv ct us (hl : us.length = ["value", "kinds", "roles", "sizes"].length) => match us, hl with | [_, _, _, _], _ => rfl
theorem bd32 : BindsAll d32 := fun kV doc pm an cdv ct us (hl : us.length = ["value"].length) => match us, hl with | [_], _ => rfl
theorem bd33 : BindsAll d33 := fun kV doc pm an cdv ct us (hl : us.length = ["rows"].length) => match us, hl with | [_], _ => rfl
theorem bd34 : BindsAll d34 := fun kV doc pm an cdv ct us (hl : us.length = ["terms", "value"].length) => match us, hl with | [_, _], _ => rfl
theorem bd35 : BindsAll d35 := fun kV doc pm an cdv ct us (hl : us.length = ["terms", "world", "term"].length) => match us, hl with | [_, _, _], _ => rfl
theorem bd36 : BindsAll d36 := fun kV doc pm an cdv ct us (hl : us.length = ["bag"].length) => match us, hl with | [_], _ => rfl
theorem bd37 : BindsAll d37 := fun kV doc pm an cdv ct us (hl : us.length = ["bag"].length) => match us, hl with | [_], _ => rfl
theorem bd38 : BindsAll d38 := fun kV doc pm an cdv ct us (hl : us.length = ["script"].length) => match us, hl with | [_], _ => rfl
def Cls0 (K : PySem.W.Frag) (mg : Str → Option Value) : Prop := ∃ C, ClsAt K mg "Form" C ∧ MethDef K C "__init__" d3 ∧ MethDef K C "is_good" d4 ∧ NoAttr K C "_many" ∧ NoAttr K C "_roles" ∧ NoAttr K C "_kinds"
theorem cls0_mk {K : PySem.W.Frag} {h : Heap} {mg : Str → Option Value} (X : K.In h) (G : h.Ns mainGlobals mg) {C : Addr} {f0 : Addr} {oc0 kV0 doc0 pm0 cdv0 ct0 : Value} {od0 an0 : Option Addr} {sl0 : Array (Option Value)} {f1 : Addr} {oc1 kV1 doc1 pm1 cdv1 ct1 : Value} {od1 an1 : Option Addr} {sl1 : Array (Option Value)}
    (aC : PySem.W.nsIn K mainGlobals "Form" = some (some (.ref C)))
    (pg : PySem.W.plainGet K C Str.empty = true)
    (hd : PySem.W.hasDictIn K C = true)
    (po : PySem.W.plainOver K C = true)
    (sa : PySem.W.findIn K (.ref C) "__setattr__" = some (some (.builtin "object.__setattr__")))
    (mk : PySem.W.makesIn K C = true)
    (kc : PySem.W.keepIn K (.ref C) = true)
    (a0 : PySem.W.findIn K (.ref C) "__init__" = some (some (.ref f0)))
    (i0 : PySem.W.isFn K (.ref f0) = true)
    (l0 : K.lookup f0 = some ⟨oc0, od0, .func (PySem.W.fnOf "__init__" "Form.__init__" (defArgs s3) (defBody s3) (defScope s3) .none kV0 doc0 pm0 an0 cdv0 ct0), sl0⟩)
    (c0 : PySem.W.codeIn K cdv0 "Form.__init__" = true)
    (k0 : PySem.W.keepIn K (.ref f0) = true)
    (a1 : PySem.W.findIn K (.ref C) "is_good" = some (some (.ref f1)))
    (i1 : PySem.W.isFn K (.ref f1) = true)
    (l1 : K.lookup f1 = some ⟨oc1, od1, .func (PySem.W.fnOf "is_good" "Form.is_good" (defArgs s4) (defBody s4) (defScope s4) .none kV1 doc1 pm1 an1 cdv1 ct1), sl1⟩)
    (c1 : PySem.W.codeIn K cdv1 "Form.is_good" = true)
    (k1 : PySem.W.keepIn K (.ref f1) = true)
    (n0 : PySem.W.findIn K (.ref C) "_many" = some none)
    (n1 : PySem.W.findIn K (.ref C) "_roles" = some none)
    (n2 : PySem.W.findIn K (.ref C) "_kinds" = some none) : Cls0 K mg := ⟨C, clsAt_mk X G aC pg hd po sa mk kc, methD_mk bd3 a0 i0 l0 c0 k0, methD_mk bd4 a1 i1 l1 c1 k1, n0, n1, n2⟩
theorem tp0 {K : PySem.W.Frag} {h : Heap} {mg : Str → Option Value} (X : K.In h) (G : h.Ns mainGlobals mg) {f : Addr} {oc : Value} {od an : Option Addr} {osl : Array (Option Value)} {kV doc pm cdv ct : Value} (a : PySem.W.nsIn K mainGlobals "is_integer" = some (some (.ref f)))
    (l : K.lookup f = some ⟨oc, od, .func (PySem.W.fnOf "is_integer" "is_integer" (defArgs s0) (defBody s0) (defScope s0) .none kV doc pm an cdv ct), osl⟩)
    (c : PySem.W.codeIn K cdv "is_integer" = true) (k : PySem.W.keepIn K (.ref f) = true) : TopDef K mg d0 := top_mk X G bd0 a l c k
theorem tp1 {K : PySem.W.Frag} {h : Heap} {mg : Str → Option Value} (X : K.In h) (G : h.Ns mainGlobals mg) {f : Addr} {oc : Value} {od an : Option Addr} {osl : Array (Option Value)} {kV doc pm cdv ct : Value} (a : PySem.W.nsIn K mainGlobals "form_of" = some (some (.ref f)))
    (l : K.lookup f = some ⟨oc, od, .func (PySem.W.fnOf "form_of" "form_of" (defArgs s1) (defBody s1) (defScope s1) .none kV doc pm an cdv ct), osl⟩)
    (c : PySem.W.codeIn K cdv "form_of" = true) (k : PySem.W.keepIn K (.ref f) = true) : TopDef K mg d1 := top_mk X G bd1 a l c k
theorem tp2 {K : PySem.W.Frag} {h : Heap} {mg : Str → Option Value} (X : K.In h) (G : h.Ns mainGlobals mg) {f : Addr} {oc : Value} {od an : Option Addr} {osl : Array (Option Value)} {kV doc pm cdv ct : Value} (a : PySem.W.nsIn K mainGlobals "are_ascending" = some (some (.ref f)))
    (l : K.lookup f = some ⟨oc, od, .func (PySem.W.fnOf "are_ascending" "are_ascending" (defArgs s2) (defBody s2) (defScope s2) .none kV doc pm an cdv ct), osl⟩)
    (c : PySem.W.codeIn K cdv "are_ascending" = true) (k : PySem.W.keepIn K (.ref f) = true) : TopDef K mg d2 := top_mk X G bd2 a l c k
theorem tp5 {K : PySem.W.Frag} {h : Heap} {mg : Str → Option Value} (X : K.In h) (G : h.Ns mainGlobals mg) {f : Addr} {oc : Value} {od an : Option Addr} {osl : Array (Option Value)} {kV doc pm cdv ct : Value} (a : PySem.W.nsIn K mainGlobals "is_term_over" = some (some (.ref f)))
    (l : K.lookup f = some ⟨oc, od, .func (PySem.W.fnOf "is_term_over" "is_term_over" (defArgs s5) (defBody s5) (defScope s5) .none kV doc pm an cdv ct), osl⟩)
    (c : PySem.W.codeIn K cdv "is_term_over" = true) (k : PySem.W.keepIn K (.ref f) = true) : TopDef K mg d5 := top_mk X G bd5 a l c k
theorem tp6 {K : PySem.W.Frag} {h : Heap} {mg : Str → Option Value} (X : K.In h) (G : h.Ns mainGlobals mg) {f : Addr} {oc : Value} {od an : Option Addr} {osl : Array (Option Value)} {kV doc pm cdv ct : Value} (a : PySem.W.nsIn K mainGlobals "size_of" = some (some (.ref f)))
    (l : K.lookup f = some ⟨oc, od, .func (PySem.W.fnOf "size_of" "size_of" (defArgs s6) (defBody s6) (defScope s6) .none kV doc pm an cdv ct), osl⟩)
    (c : PySem.W.codeIn K cdv "size_of" = true) (k : PySem.W.keepIn K (.ref f) = true) : TopDef K mg d6 := top_mk X G bd6 a l c k
theorem tp7 {K : PySem.W.Frag} {h : Heap} {mg : Str → Option Value} (X : K.In h) (G : h.Ns mainGlobals mg) {f : Addr} {oc : Value} {od an : Option Addr} {osl : Array (Option Value)} {kV doc pm cdv ct : Value} (a : PySem.W.nsIn K mainGlobals "total_of" = some (some (.ref f)))
    (l : K.lookup f = some ⟨oc, od, .func (PySem.W.fnOf "total_of" "total_of" (defArgs s7) (defBody s7) (defScope s7) .none kV doc pm an cdv ct), osl⟩)
    (c : PySem.W.codeIn K cdv "total_of" = true) (k : PySem.W.keepIn K (.ref f) = true) : TopDef K mg d7 := top_mk X G bd7 a l c k
theorem tp8 {K : PySem.W.Frag} {h : Heap} {mg : Str → Option Value} (X : K.In h) (G : h.Ns mainGlobals mg) {f : Addr} {oc : Value} {od an : Option Addr} {osl : Array (Option Value)} {kV doc pm cdv ct : Value} (a : PySem.W.nsIn K mainGlobals "is_axiom" = some (some (.ref f)))
    (l : K.lookup f = some ⟨oc, od, .func (PySem.W.fnOf "is_axiom" "is_axiom" (defArgs s8) (defBody s8) (defScope s8) .none kV doc pm an cdv ct), osl⟩)
    (c : PySem.W.codeIn K cdv "is_axiom" = true) (k : PySem.W.keepIn K (.ref f) = true) : TopDef K mg d8 := top_mk X G bd8 a l c k
theorem tp9 {K : PySem.W.Frag} {h : Heap} {mg : Str → Option Value} (X : K.In h) (G : h.Ns mainGlobals mg) {f : Addr} {oc : Value} {od an : Option Addr} {osl : Array (Option Value)} {kV doc pm cdv ct : Value} (a : PySem.W.nsIn K mainGlobals "is_terms" = some (some (.ref f)))
    (l : K.lookup f = some ⟨oc, od, .func (PySem.W.fnOf "is_terms" "is_terms" (defArgs s9) (defBody s9) (defScope s9) .none kV doc pm an cdv ct), osl⟩)
    (c : PySem.W.codeIn K cdv "is_terms" = true) (k : PySem.W.keepIn K (.ref f) = true) : TopDef K mg d9 := top_mk X G bd9 a l c k
theorem tp10 {K : PySem.W.Frag} {h : Heap} {mg : Str → Option Value} (X : K.In h) (G : h.Ns mainGlobals mg) {f : Addr} {oc : Value} {od an : Option Addr} {osl : Array (Option Value)} {kV doc pm cdv ct : Value} (a : PySem.W.nsIn K mainGlobals "is_term" = some (some (.ref f)))
    (l : K.lookup f = some ⟨oc, od, .func (PySem.W.fnOf "is_term" "is_term" (defArgs s10) (defBody s10) (defScope s10) .none kV doc pm an cdv ct), osl⟩)
    (c : PySem.W.codeIn K cdv "is_term" = true) (k : PySem.W.keepIn K (.ref f) = true) : TopDef K mg d10 := top_mk X G bd10 a l c k
theorem tp11 {K : PySem.W.Frag} {h : Heap} {mg : Str → Option Value} (X : K.In h) (G : h.Ns mainGlobals mg) {f : Addr} {oc : Value} {od an : Option Addr} {osl : Array (Option Value)} {kV doc pm cdv ct : Value} (a : PySem.W.nsIn K mainGlobals "are_things" = some (some (.ref f)))
    (l : K.lookup f = some ⟨oc, od, .func (PySem.W.fnOf "are_things" "are_things" (defArgs s11) (defBody s11) (defScope s11) .none kV doc pm an cdv ct), osl⟩)
    (c : PySem.W.codeIn K cdv "are_things" = true) (k : PySem.W.keepIn K (.ref f) = true) : TopDef K mg d11 := top_mk X G bd11 a l c k
theorem tp12 {K : PySem.W.Frag} {h : Heap} {mg : Str → Option Value} (X : K.In h) (G : h.Ns mainGlobals mg) {f : Addr} {oc : Value} {od an : Option Addr} {osl : Array (Option Value)} {kV doc pm cdv ct : Value} (a : PySem.W.nsIn K mainGlobals "are_pairs" = some (some (.ref f)))
    (l : K.lookup f = some ⟨oc, od, .func (PySem.W.fnOf "are_pairs" "are_pairs" (defArgs s12) (defBody s12) (defScope s12) .none kV doc pm an cdv ct), osl⟩)
    (c : PySem.W.codeIn K cdv "are_pairs" = true) (k : PySem.W.keepIn K (.ref f) = true) : TopDef K mg d12 := top_mk X G bd12 a l c k
theorem tp13 {K : PySem.W.Frag} {h : Heap} {mg : Str → Option Value} (X : K.In h) (G : h.Ns mainGlobals mg) {f : Addr} {oc : Value} {od an : Option Addr} {osl : Array (Option Value)} {kV doc pm cdv ct : Value} (a : PySem.W.nsIn K mainGlobals "is_world_of" = some (some (.ref f)))
    (l : K.lookup f = some ⟨oc, od, .func (PySem.W.fnOf "is_world_of" "is_world_of" (defArgs s13) (defBody s13) (defScope s13) .none kV doc pm an cdv ct), osl⟩)
    (c : PySem.W.codeIn K cdv "is_world_of" = true) (k : PySem.W.keepIn K (.ref f) = true) : TopDef K mg d13 := top_mk X G bd13 a l c k
theorem tp14 {K : PySem.W.Frag} {h : Heap} {mg : Str → Option Value} (X : K.In h) (G : h.Ns mainGlobals mg) {f : Addr} {oc : Value} {od an : Option Addr} {osl : Array (Option Value)} {kV doc pm cdv ct : Value} (a : PySem.W.nsIn K mainGlobals "is_world" = some (some (.ref f)))
    (l : K.lookup f = some ⟨oc, od, .func (PySem.W.fnOf "is_world" "is_world" (defArgs s14) (defBody s14) (defScope s14) .none kV doc pm an cdv ct), osl⟩)
    (c : PySem.W.codeIn K cdv "is_world" = true) (k : PySem.W.keepIn K (.ref f) = true) : TopDef K mg d14 := top_mk X G bd14 a l c k
theorem tp15 {K : PySem.W.Frag} {h : Heap} {mg : Str → Option Value} (X : K.In h) (G : h.Ns mainGlobals mg) {f : Addr} {oc : Value} {od an : Option Addr} {osl : Array (Option Value)} {kV doc pm cdv ct : Value} (a : PySem.W.nsIn K mainGlobals "check_terms" = some (some (.ref f)))
    (l : K.lookup f = some ⟨oc, od, .func (PySem.W.fnOf "check_terms" "check_terms" (defArgs s15) (defBody s15) (defScope s15) .none kV doc pm an cdv ct), osl⟩)
    (c : PySem.W.codeIn K cdv "check_terms" = true) (k : PySem.W.keepIn K (.ref f) = true) : TopDef K mg d15 := top_mk X G bd15 a l c k
theorem tp16 {K : PySem.W.Frag} {h : Heap} {mg : Str → Option Value} (X : K.In h) (G : h.Ns mainGlobals mg) {f : Addr} {oc : Value} {od an : Option Addr} {osl : Array (Option Value)} {kV doc pm cdv ct : Value} (a : PySem.W.nsIn K mainGlobals "check_term" = some (some (.ref f)))
    (l : K.lookup f = some ⟨oc, od, .func (PySem.W.fnOf "check_term" "check_term" (defArgs s16) (defBody s16) (defScope s16) .none kV doc pm an cdv ct), osl⟩)
    (c : PySem.W.codeIn K cdv "check_term" = true) (k : PySem.W.keepIn K (.ref f) = true) : TopDef K mg d16 := top_mk X G bd16 a l c k
theorem tp17 {K : PySem.W.Frag} {h : Heap} {mg : Str → Option Value} (X : K.In h) (G : h.Ns mainGlobals mg) {f : Addr} {oc : Value} {od an : Option Addr} {osl : Array (Option Value)} {kV doc pm cdv ct : Value} (a : PySem.W.nsIn K mainGlobals "check_world" = some (some (.ref f)))
    (l : K.lookup f = some ⟨oc, od, .func (PySem.W.fnOf "check_world" "check_world" (defArgs s17) (defBody s17) (defScope s17) .none kV doc pm an cdv ct), osl⟩)
    (c : PySem.W.codeIn K cdv "check_world" = true) (k : PySem.W.keepIn K (.ref f) = true) : TopDef K mg d17 := top_mk X G bd17 a l c k
theorem tp18 {K : PySem.W.Frag} {h : Heap} {mg : Str → Option Value} (X : K.In h) (G : h.Ns mainGlobals mg) {f : Addr} {oc : Value} {od an : Option Addr} {osl : Array (Option Value)} {kV doc pm cdv ct : Value} (a : PySem.W.nsIn K mainGlobals "members" = some (some (.ref f)))
    (l : K.lookup f = some ⟨oc, od, .func (PySem.W.fnOf "members" "members" (defArgs s18) (defBody s18) (defScope s18) .none kV doc pm an cdv ct), osl⟩)
    (c : PySem.W.codeIn K cdv "members" = true) (k : PySem.W.keepIn K (.ref f) = true) : TopDef K mg d18 := top_mk X G bd18 a l c k
theorem tp19 {K : PySem.W.Frag} {h : Heap} {mg : Str → Option Value} (X : K.In h) (G : h.Ns mainGlobals mg) {f : Addr} {oc : Value} {od an : Option Addr} {osl : Array (Option Value)} {kV doc pm cdv ct : Value} (a : PySem.W.nsIn K mainGlobals "things_of" = some (some (.ref f)))
    (l : K.lookup f = some ⟨oc, od, .func (PySem.W.fnOf "things_of" "things_of" (defArgs s19) (defBody s19) (defScope s19) .none kV doc pm an cdv ct), osl⟩)
    (c : PySem.W.codeIn K cdv "things_of" = true) (k : PySem.W.keepIn K (.ref f) = true) : TopDef K mg d19 := top_mk X G bd19 a l c k
theorem tp20 {K : PySem.W.Frag} {h : Heap} {mg : Str → Option Value} (X : K.In h) (G : h.Ns mainGlobals mg) {f : Addr} {oc : Value} {od an : Option Addr} {osl : Array (Option Value)} {kV doc pm cdv ct : Value} (a : PySem.W.nsIn K mainGlobals "_law_bag" = some (some (.ref f)))
    (l : K.lookup f = some ⟨oc, od, .func (PySem.W.fnOf "_law_bag" "_law_bag" (defArgs s20) (defBody s20) (defScope s20) .none kV doc pm an cdv ct), osl⟩)
    (c : PySem.W.codeIn K cdv "_law_bag" = true) (k : PySem.W.keepIn K (.ref f) = true) : TopDef K mg d20 := top_mk X G bd20 a l c k
theorem tp21 {K : PySem.W.Frag} {h : Heap} {mg : Str → Option Value} (X : K.In h) (G : h.Ns mainGlobals mg) {f : Addr} {oc : Value} {od an : Option Addr} {osl : Array (Option Value)} {kV doc pm cdv ct : Value} (a : PySem.W.nsIn K mainGlobals "_law_draw" = some (some (.ref f)))
    (l : K.lookup f = some ⟨oc, od, .func (PySem.W.fnOf "_law_draw" "_law_draw" (defArgs s21) (defBody s21) (defScope s21) .none kV doc pm an cdv ct), osl⟩)
    (c : PySem.W.codeIn K cdv "_law_draw" = true) (k : PySem.W.keepIn K (.ref f) = true) : TopDef K mg d21 := top_mk X G bd21 a l c k
theorem tp22 {K : PySem.W.Frag} {h : Heap} {mg : Str → Option Value} (X : K.In h) (G : h.Ns mainGlobals mg) {f : Addr} {oc : Value} {od an : Option Addr} {osl : Array (Option Value)} {kV doc pm cdv ct : Value} (a : PySem.W.nsIn K mainGlobals "_law_one" = some (some (.ref f)))
    (l : K.lookup f = some ⟨oc, od, .func (PySem.W.fnOf "_law_one" "_law_one" (defArgs s22) (defBody s22) (defScope s22) .none kV doc pm an cdv ct), osl⟩)
    (c : PySem.W.codeIn K cdv "_law_one" = true) (k : PySem.W.keepIn K (.ref f) = true) : TopDef K mg d22 := top_mk X G bd22 a l c k
theorem tp23 {K : PySem.W.Frag} {h : Heap} {mg : Str → Option Value} (X : K.In h) (G : h.Ns mainGlobals mg) {f : Addr} {oc : Value} {od an : Option Addr} {osl : Array (Option Value)} {kV doc pm cdv ct : Value} (a : PySem.W.nsIn K mainGlobals "_law_term" = some (some (.ref f)))
    (l : K.lookup f = some ⟨oc, od, .func (PySem.W.fnOf "_law_term" "_law_term" (defArgs s23) (defBody s23) (defScope s23) .none kV doc pm an cdv ct), osl⟩)
    (c : PySem.W.codeIn K cdv "_law_term" = true) (k : PySem.W.keepIn K (.ref f) = true) : TopDef K mg d23 := top_mk X G bd23 a l c k
theorem tp24 {K : PySem.W.Frag} {h : Heap} {mg : Str → Option Value} (X : K.In h) (G : h.Ns mainGlobals mg) {f : Addr} {oc : Value} {od an : Option Addr} {osl : Array (Option Value)} {kV doc pm cdv ct : Value} (a : PySem.W.nsIn K mainGlobals "_law_axiom" = some (some (.ref f)))
    (l : K.lookup f = some ⟨oc, od, .func (PySem.W.fnOf "_law_axiom" "_law_axiom" (defArgs s24) (defBody s24) (defScope s24) .none kV doc pm an cdv ct), osl⟩)
    (c : PySem.W.codeIn K cdv "_law_axiom" = true) (k : PySem.W.keepIn K (.ref f) = true) : TopDef K mg d24 := top_mk X G bd24 a l c k
theorem tp25 {K : PySem.W.Frag} {h : Heap} {mg : Str → Option Value} (X : K.In h) (G : h.Ns mainGlobals mg) {f : Addr} {oc : Value} {od an : Option Addr} {osl : Array (Option Value)} {kV doc pm cdv ct : Value} (a : PySem.W.nsIn K mainGlobals "_law_terms" = some (some (.ref f)))
    (l : K.lookup f = some ⟨oc, od, .func (PySem.W.fnOf "_law_terms" "_law_terms" (defArgs s25) (defBody s25) (defScope s25) .none kV doc pm an cdv ct), osl⟩)
    (c : PySem.W.codeIn K cdv "_law_terms" = true) (k : PySem.W.keepIn K (.ref f) = true) : TopDef K mg d25 := top_mk X G bd25 a l c k
theorem tp26 {K : PySem.W.Frag} {h : Heap} {mg : Str → Option Value} (X : K.In h) (G : h.Ns mainGlobals mg) {f : Addr} {oc : Value} {od an : Option Addr} {osl : Array (Option Value)} {kV doc pm cdv ct : Value} (a : PySem.W.nsIn K mainGlobals "_law_world" = some (some (.ref f)))
    (l : K.lookup f = some ⟨oc, od, .func (PySem.W.fnOf "_law_world" "_law_world" (defArgs s26) (defBody s26) (defScope s26) .none kV doc pm an cdv ct), osl⟩)
    (c : PySem.W.codeIn K cdv "_law_world" = true) (k : PySem.W.keepIn K (.ref f) = true) : TopDef K mg d26 := top_mk X G bd26 a l c k
theorem tp27 {K : PySem.W.Frag} {h : Heap} {mg : Str → Option Value} (X : K.In h) (G : h.Ns mainGlobals mg) {f : Addr} {oc : Value} {od an : Option Addr} {osl : Array (Option Value)} {kV doc pm cdv ct : Value} (a : PySem.W.nsIn K mainGlobals "_law_spoilt" = some (some (.ref f)))
    (l : K.lookup f = some ⟨oc, od, .func (PySem.W.fnOf "_law_spoilt" "_law_spoilt" (defArgs s27) (defBody s27) (defScope s27) .none kV doc pm an cdv ct), osl⟩)
    (c : PySem.W.codeIn K cdv "_law_spoilt" = true) (k : PySem.W.keepIn K (.ref f) = true) : TopDef K mg d27 := top_mk X G bd27 a l c k
theorem tp28 {K : PySem.W.Frag} {h : Heap} {mg : Str → Option Value} (X : K.In h) (G : h.Ns mainGlobals mg) {f : Addr} {oc : Value} {od an : Option Addr} {osl : Array (Option Value)} {kV doc pm cdv ct : Value} (a : PySem.W.nsIn K mainGlobals "_law_is_int" = some (some (.ref f)))
    (l : K.lookup f = some ⟨oc, od, .func (PySem.W.fnOf "_law_is_int" "_law_is_int" (defArgs s28) (defBody s28) (defScope s28) .none kV doc pm an cdv ct), osl⟩)
    (c : PySem.W.codeIn K cdv "_law_is_int" = true) (k : PySem.W.keepIn K (.ref f) = true) : TopDef K mg d28 := top_mk X G bd28 a l c k
theorem tp29 {K : PySem.W.Frag} {h : Heap} {mg : Str → Option Value} (X : K.In h) (G : h.Ns mainGlobals mg) {f : Addr} {oc : Value} {od an : Option Addr} {osl : Array (Option Value)} {kV doc pm cdv ct : Value} (a : PySem.W.nsIn K mainGlobals "_law_form" = some (some (.ref f)))
    (l : K.lookup f = some ⟨oc, od, .func (PySem.W.fnOf "_law_form" "_law_form" (defArgs s29) (defBody s29) (defScope s29) .none kV doc pm an cdv ct), osl⟩)
    (c : PySem.W.codeIn K cdv "_law_form" = true) (k : PySem.W.keepIn K (.ref f) = true) : TopDef K mg d29 := top_mk X G bd29 a l c k
theorem tp30 {K : PySem.W.Frag} {h : Heap} {mg : Str → Option Value} (X : K.In h) (G : h.Ns mainGlobals mg) {f : Addr} {oc : Value} {od an : Option Addr} {osl : Array (Option Value)} {kV doc pm cdv ct : Value} (a : PySem.W.nsIn K mainGlobals "_law_is_term" = some (some (.ref f)))
    (l : K.lookup f = some ⟨oc, od, .func (PySem.W.fnOf "_law_is_term" "_law_is_term" (defArgs s30) (defBody s30) (defScope s30) .none kV doc pm an cdv ct), osl⟩)
    (c : PySem.W.codeIn K cdv "_law_is_term" = true) (k : PySem.W.keepIn K (.ref f) = true) : TopDef K mg d30 := top_mk X G bd30 a l c k
theorem tp31 {K : PySem.W.Frag} {h : Heap} {mg : Str → Option Value} (X : K.In h) (G : h.Ns mainGlobals mg) {f : Addr} {oc : Value} {od an : Option Addr} {osl : Array (Option Value)} {kV doc pm cdv ct : Value} (a : PySem.W.nsIn K mainGlobals "_law_is_axiom" = some (some (.ref f)))
    (l : K.lookup f = some ⟨oc, od, .func (PySem.W.fnOf "_law_is_axiom" "_law_is_axiom" (defArgs s31) (defBody s31) (defScope s31) .none kV doc pm an cdv ct), osl⟩)
    (c : PySem.W.codeIn K cdv "_law_is_axiom" = true) (k : PySem.W.keepIn K (.ref f) = true) : TopDef K mg d31 := top_mk X G bd31 a l c k
theorem tp32 {K : PySem.W.Frag} {h : Heap} {mg : Str → Option Value} (X : K.In h) (G : h.Ns mainGlobals mg) {f : Addr} {oc : Value} {od an : Option Addr} {osl : Array (Option Value)} {kV doc pm cdv ct : Value} (a : PySem.W.nsIn K mainGlobals "_law_is_terms" = some (some (.ref f)))
    (l : K.lookup f = some ⟨oc, od, .func (PySem.W.fnOf "_law_is_terms" "_law_is_terms" (defArgs s32) (defBody s32) (defScope s32) .none kV doc pm an cdv ct), osl⟩)
    (c : PySem.W.codeIn K cdv "_law_is_terms" = true) (k : PySem.W.keepIn K (.ref f) = true) : TopDef K mg d32 := top_mk X G bd32 a l c k
theorem tp33 {K : PySem.W.Frag} {h : Heap} {mg : Str → Option Value} (X : K.In h) (G : h.Ns mainGlobals mg) {f : Addr} {oc : Value} {od an : Option Addr} {osl : Array (Option Value)} {kV doc pm cdv ct : Value} (a : PySem.W.nsIn K mainGlobals "_law_up" = some (some (.ref f)))
    (l : K.lookup f = some ⟨oc, od, .func (PySem.W.fnOf "_law_up" "_law_up" (defArgs s33) (defBody s33) (defScope s33) .none kV doc pm an cdv ct), osl⟩)
    (c : PySem.W.codeIn K cdv "_law_up" = true) (k : PySem.W.keepIn K (.ref f) = true) : TopDef K mg d33 := top_mk X G bd33 a l c k
theorem tp34 {K : PySem.W.Frag} {h : Heap} {mg : Str → Option Value} (X : K.In h) (G : h.Ns mainGlobals mg) {f : Addr} {oc : Value} {od an : Option Addr} {osl : Array (Option Value)} {kV doc pm cdv ct : Value} (a : PySem.W.nsIn K mainGlobals "_law_is_world" = some (some (.ref f)))
    (l : K.lookup f = some ⟨oc, od, .func (PySem.W.fnOf "_law_is_world" "_law_is_world" (defArgs s34) (defBody s34) (defScope s34) .none kV doc pm an cdv ct), osl⟩)
    (c : PySem.W.codeIn K cdv "_law_is_world" = true) (k : PySem.W.keepIn K (.ref f) = true) : TopDef K mg d34 := top_mk X G bd34 a l c k
theorem tp35 {K : PySem.W.Frag} {h : Heap} {mg : Str → Option Value} (X : K.In h) (G : h.Ns mainGlobals mg) {f : Addr} {oc : Value} {od an : Option Addr} {osl : Array (Option Value)} {kV doc pm cdv ct : Value} (a : PySem.W.nsIn K mainGlobals "_law_told" = some (some (.ref f)))
    (l : K.lookup f = some ⟨oc, od, .func (PySem.W.fnOf "_law_told" "_law_told" (defArgs s35) (defBody s35) (defScope s35) .none kV doc pm an cdv ct), osl⟩)
    (c : PySem.W.codeIn K cdv "_law_told" = true) (k : PySem.W.keepIn K (.ref f) = true) : TopDef K mg d35 := top_mk X G bd35 a l c k
theorem tp36 {K : PySem.W.Frag} {h : Heap} {mg : Str → Option Value} (X : K.In h) (G : h.Ns mainGlobals mg) {f : Addr} {oc : Value} {od an : Option Addr} {osl : Array (Option Value)} {kV doc pm cdv ct : Value} (a : PySem.W.nsIn K mainGlobals "_law_tall" = some (some (.ref f)))
    (l : K.lookup f = some ⟨oc, od, .func (PySem.W.fnOf "_law_tall" "_law_tall" (defArgs s36) (defBody s36) (defScope s36) .none kV doc pm an cdv ct), osl⟩)
    (c : PySem.W.codeIn K cdv "_law_tall" = true) (k : PySem.W.keepIn K (.ref f) = true) : TopDef K mg d36 := top_mk X G bd36 a l c k
theorem tp37 {K : PySem.W.Frag} {h : Heap} {mg : Str → Option Value} (X : K.In h) (G : h.Ns mainGlobals mg) {f : Addr} {oc : Value} {od an : Option Addr} {osl : Array (Option Value)} {kV doc pm cdv ct : Value} (a : PySem.W.nsIn K mainGlobals "_law_many" = some (some (.ref f)))
    (l : K.lookup f = some ⟨oc, od, .func (PySem.W.fnOf "_law_many" "_law_many" (defArgs s37) (defBody s37) (defScope s37) .none kV doc pm an cdv ct), osl⟩)
    (c : PySem.W.codeIn K cdv "_law_many" = true) (k : PySem.W.keepIn K (.ref f) = true) : TopDef K mg d37 := top_mk X G bd37 a l c k
theorem tp38 {K : PySem.W.Frag} {h : Heap} {mg : Str → Option Value} (X : K.In h) (G : h.Ns mainGlobals mg) {f : Addr} {oc : Value} {od an : Option Addr} {osl : Array (Option Value)} {kV doc pm cdv ct : Value} (a : PySem.W.nsIn K mainGlobals "law" = some (some (.ref f)))
    (l : K.lookup f = some ⟨oc, od, .func (PySem.W.fnOf "law" "law" (defArgs s38) (defBody s38) (defScope s38) .none kV doc pm an cdv ct), osl⟩)
    (c : PySem.W.codeIn K cdv "law" = true) (k : PySem.W.keepIn K (.ref f) = true) : TopDef K mg d38 := top_mk X G bd38 a l c k
def adrOf (l : List Addr) (j : Nat) : Addr := l.getD j 0
theorem prg {P : Program} {K : PySem.W.Frag} {mg : Str → Option Value}
    (K0 : Cls0 K mg)
    (T0 : TopDef K mg d0)
    (T1 : TopDef K mg d1)
    (T2 : TopDef K mg d2)
    (T5 : TopDef K mg d5)
    (T6 : TopDef K mg d6)
    (T7 : TopDef K mg d7)
    (T8 : TopDef K mg d8)
    (T9 : TopDef K mg d9)
    (T10 : TopDef K mg d10)
    (T11 : TopDef K mg d11)
    (T12 : TopDef K mg d12)
    (T13 : TopDef K mg d13)
    (T14 : TopDef K mg d14)
    (T15 : TopDef K mg d15)
    (T16 : TopDef K mg d16)
    (T17 : TopDef K mg d17)
    (T18 : TopDef K mg d18)
    (T19 : TopDef K mg d19)
    (T20 : TopDef K mg d20)
    (T21 : TopDef K mg d21)
    (T22 : TopDef K mg d22)
    (T23 : TopDef K mg d23)
    (T24 : TopDef K mg d24)
    (T25 : TopDef K mg d25)
    (T26 : TopDef K mg d26)
    (T27 : TopDef K mg d27)
    (T28 : TopDef K mg d28)
    (T29 : TopDef K mg d29)
    (T30 : TopDef K mg d30)
    (T31 : TopDef K mg d31)
    (T32 : TopDef K mg d32)
    (T33 : TopDef K mg d33)
    (T34 : TopDef K mg d34)
    (T35 : TopDef K mg d35)
    (T36 : TopDef K mg d36)
    (T37 : TopDef K mg d37)
    (T38 : TopDef K mg d38)
    (E_BadTerms : ExcDef K mg "BadTerms")
    (E_BadTerm : ExcDef K mg "BadTerm")
    (E_BadWorld : ExcDef K mg "BadWorld")
    (P_BadTerms_BadTerms : ExcPair K mg "BadTerms" "BadTerms")
    (P_BadTerms_BadTerm : ExcPair K mg "BadTerms" "BadTerm")
    (P_BadTerms_BadWorld : ExcPair K mg "BadTerms" "BadWorld")
    (P_BadTerm_BadTerms : ExcPair K mg "BadTerm" "BadTerms")
    (P_BadTerm_BadTerm : ExcPair K mg "BadTerm" "BadTerm")
    (P_BadTerm_BadWorld : ExcPair K mg "BadTerm" "BadWorld")
    (P_BadWorld_BadTerms : ExcPair K mg "BadWorld" "BadTerms")
    (P_BadWorld_BadTerm : ExcPair K mg "BadWorld" "BadTerm")
    (P_BadWorld_BadWorld : ExcPair K mg "BadWorld" "BadWorld")
    (V_MOST_SIZE : ∃ u v, mg "MOST_SIZE" = some u ∧ RelV v u ∧ ∀ H, RV K H v (.int 60))
    (V_MOST_DEPTH : ∃ u v, mg "MOST_DEPTH" = some u ∧ RelV v u ∧ ∀ H, RV K H v (.int 20))
    (V_MOST_TOTAL : ∃ u v, mg "MOST_TOTAL" = some u ∧ RelV v u ∧ ∀ H, RV K H v (.int 400))
    (V_MOST_AXIOMS : ∃ u v, mg "MOST_AXIOMS" = some u ∧ RelV v u ∧ ∀ H, RV K H v (.int 40))
    (V_MOST_ROLES : ∃ u v, mg "MOST_ROLES" = some u ∧ RelV v u ∧ ∀ H, RV K H v (.int 6))
    (V_MOST_KINDS : ∃ u v, mg "MOST_KINDS" = some u ∧ RelV v u ∧ ∀ H, RV K H v (.int 16))
    (V_MOST_THINGS : ∃ u v, mg "MOST_THINGS" = some u ∧ RelV v u ∧ ∀ H, RV K H v (.int 200))
    (NM : ∀ x ∈ stdNames, mg x = none) :
    ∃ (C0 : Addr) (ll : List Addr), Prg P K mg (lib C0) D (adrOf ll) := by
  obtain ⟨C0, k0, ⟨f3, m3, e3⟩, ⟨f4, m4, e4⟩, n0_0, n0_1, n0_2⟩ := K0
  obtain ⟨f0, g0, e0⟩ := T0
  obtain ⟨f1, g1, e1⟩ := T1
  obtain ⟨f2, g2, e2⟩ := T2
  obtain ⟨f5, g5, e5⟩ := T5
  obtain ⟨f6, g6, e6⟩ := T6
  obtain ⟨f7, g7, e7⟩ := T7
  obtain ⟨f8, g8, e8⟩ := T8
  obtain ⟨f9, g9, e9⟩ := T9
  obtain ⟨f10, g10, e10⟩ := T10
  obtain ⟨f11, g11, e11⟩ := T11
  obtain ⟨f12, g12, e12⟩ := T12
  obtain ⟨f13, g13, e13⟩ := T13
  obtain ⟨f14, g14, e14⟩ := T14
  obtain ⟨f15, g15, e15⟩ := T15
  obtain ⟨f16, g16, e16⟩ := T16
  obtain ⟨f17, g17, e17⟩ := T17
  obtain ⟨f18, g18, e18⟩ := T18
  obtain ⟨f19, g19, e19⟩ := T19
  obtain ⟨f20, g20, e20⟩ := T20
  obtain ⟨f21, g21, e21⟩ := T21
  obtain ⟨f22, g22, e22⟩ := T22
  obtain ⟨f23, g23, e23⟩ := T23
  obtain ⟨f24, g24, e24⟩ := T24
  obtain ⟨f25, g25, e25⟩ := T25
  obtain ⟨f26, g26, e26⟩ := T26
  obtain ⟨f27, g27, e27⟩ := T27
  obtain ⟨f28, g28, e28⟩ := T28
  obtain ⟨f29, g29, e29⟩ := T29
  obtain ⟨f30, g30, e30⟩ := T30
  obtain ⟨f31, g31, e31⟩ := T31
  obtain ⟨f32, g32, e32⟩ := T32
  obtain ⟨f33, g33, e33⟩ := T33
  obtain ⟨f34, g34, e34⟩ := T34
  obtain ⟨f35, g35, e35⟩ := T35
  obtain ⟨f36, g36, e36⟩ := T36
  obtain ⟨f37, g37, e37⟩ := T37
  obtain ⟨f38, g38, e38⟩ := T38
  refine ⟨C0, [f0, f1, f2, f3, f4, f5, f6, f7, f8, f9, f10, f11, f12, f13, f14, f15, f16, f17, f18, f19, f20, f21, f22, f23, f24, f25, f26, f27, f28, f29, f30, f31, f32, f33, f34, f35, f36, f37, f38], ?_⟩
  refine ⟨fun j d h => ?_, chk C0, fun j x h => ?_, fun f j h => ?_, fun p h => ?_, fun p h => ?_, fun c m j p h hp => ?_, fun c f p h hp => ?_, fun x h => ?_, fun a ha b hb => ?_, NM⟩
  · have hj : j < 39 := (List.getElem?_eq_some_iff.mp h).1
    match j, hj, h with
    | 0, _, h => exact (Option.some.inj h) ▸ e0
    | 1, _, h => exact (Option.some.inj h) ▸ e1
    | 2, _, h => exact (Option.some.inj h) ▸ e2
    | 3, _, h => exact (Option.some.inj h) ▸ e3
    | 4, _, h => exact (Option.some.inj h) ▸ e4
    | 5, _, h => exact (Option.some.inj h) ▸ e5
    | 6, _, h => exact (Option.some.inj h) ▸ e6
    | 7, _, h => exact (Option.some.inj h) ▸ e7
    | 8, _, h => exact (Option.some.inj h) ▸ e8
    | 9, _, h => exact (Option.some.inj h) ▸ e9
    | 10, _, h => exact (Option.some.inj h) ▸ e10
    | 11, _, h => exact (Option.some.inj h) ▸ e11
    | 12, _, h => exact (Option.some.inj h) ▸ e12
    | 13, _, h => exact (Option.some.inj h) ▸ e13
    | 14, _, h => exact (Option.some.inj h) ▸ e14
    | 15, _, h => exact (Option.some.inj h) ▸ e15
    | 16, _, h => exact (Option.some.inj h) ▸ e16
    | 17, _, h => exact (Option.some.inj h) ▸ e17
    | 18, _, h => exact (Option.some.inj h) ▸ e18
    | 19, _, h => exact (Option.some.inj h) ▸ e19
    | 20, _, h => exact (Option.some.inj h) ▸ e20
    | 21, _, h => exact (Option.some.inj h) ▸ e21
    | 22, _, h => exact (Option.some.inj h) ▸ e22
    | 23, _, h => exact (Option.some.inj h) ▸ e23
    | 24, _, h => exact (Option.some.inj h) ▸ e24
    | 25, _, h => exact (Option.some.inj h) ▸ e25
    | 26, _, h => exact (Option.some.inj h) ▸ e26
    | 27, _, h => exact (Option.some.inj h) ▸ e27
    | 28, _, h => exact (Option.some.inj h) ▸ e28
    | 29, _, h => exact (Option.some.inj h) ▸ e29
    | 30, _, h => exact (Option.some.inj h) ▸ e30
    | 31, _, h => exact (Option.some.inj h) ▸ e31
    | 32, _, h => exact (Option.some.inj h) ▸ e32
    | 33, _, h => exact (Option.some.inj h) ▸ e33
    | 34, _, h => exact (Option.some.inj h) ▸ e34
    | 35, _, h => exact (Option.some.inj h) ▸ e35
    | 36, _, h => exact (Option.some.inj h) ▸ e36
    | 37, _, h => exact (Option.some.inj h) ▸ e37
    | 38, _, h => exact (Option.some.inj h) ▸ e38
    | j + 39, hj, _ => exact absurd hj (by omega)
  · have hj : j < 39 := (List.getElem?_eq_some_iff.mp h).1
    match j, hj, h with
    | 0, _, h => exact ⟨rfl, (Option.some.inj (Option.some.inj h)) ▸ g0⟩
    | 1, _, h => exact ⟨rfl, (Option.some.inj (Option.some.inj h)) ▸ g1⟩
    | 2, _, h => exact ⟨rfl, (Option.some.inj (Option.some.inj h)) ▸ g2⟩
    | 3, _, h => exact absurd (Option.some.inj h) (by simp)
    | 4, _, h => exact absurd (Option.some.inj h) (by simp)
    | 5, _, h => exact ⟨rfl, (Option.some.inj (Option.some.inj h)) ▸ g5⟩
    | 6, _, h => exact ⟨rfl, (Option.some.inj (Option.some.inj h)) ▸ g6⟩
    | 7, _, h => exact ⟨rfl, (Option.some.inj (Option.some.inj h)) ▸ g7⟩
    | 8, _, h => exact ⟨rfl, (Option.some.inj (Option.some.inj h)) ▸ g8⟩
    | 9, _, h => exact ⟨rfl, (Option.some.inj (Option.some.inj h)) ▸ g9⟩
    | 10, _, h => exact ⟨rfl, (Option.some.inj (Option.some.inj h)) ▸ g10⟩
    | 11, _, h => exact ⟨rfl, (Option.some.inj (Option.some.inj h)) ▸ g11⟩
    | 12, _, h => exact ⟨rfl, (Option.some.inj (Option.some.inj h)) ▸ g12⟩
    | 13, _, h => exact ⟨rfl, (Option.some.inj (Option.some.inj h)) ▸ g13⟩
    | 14, _, h => exact ⟨rfl, (Option.some.inj (Option.some.inj h)) ▸ g14⟩
    | 15, _, h => exact ⟨rfl, (Option.some.inj (Option.some.inj h)) ▸ g15⟩
    | 16, _, h => exact ⟨rfl, (Option.some.inj (Option.some.inj h)) ▸ g16⟩
    | 17, _, h => exact ⟨rfl, (Option.some.inj (Option.some.inj h)) ▸ g17⟩
    | 18, _, h => exact ⟨rfl, (Option.some.inj (Option.some.inj h)) ▸ g18⟩
    | 19, _, h => exact ⟨rfl, (Option.some.inj (Option.some.inj h)) ▸ g19⟩
    | 20, _, h => exact ⟨rfl, (Option.some.inj (Option.some.inj h)) ▸ g20⟩
    | 21, _, h => exact ⟨rfl, (Option.some.inj (Option.some.inj h)) ▸ g21⟩
    | 22, _, h => exact ⟨rfl, (Option.some.inj (Option.some.inj h)) ▸ g22⟩
    | 23, _, h => exact ⟨rfl, (Option.some.inj (Option.some.inj h)) ▸ g23⟩
    | 24, _, h => exact ⟨rfl, (Option.some.inj (Option.some.inj h)) ▸ g24⟩
    | 25, _, h => exact ⟨rfl, (Option.some.inj (Option.some.inj h)) ▸ g25⟩
    | 26, _, h => exact ⟨rfl, (Option.some.inj (Option.some.inj h)) ▸ g26⟩
    | 27, _, h => exact ⟨rfl, (Option.some.inj (Option.some.inj h)) ▸ g27⟩
    | 28, _, h => exact ⟨rfl, (Option.some.inj (Option.some.inj h)) ▸ g28⟩
    | 29, _, h => exact ⟨rfl, (Option.some.inj (Option.some.inj h)) ▸ g29⟩
    | 30, _, h => exact ⟨rfl, (Option.some.inj (Option.some.inj h)) ▸ g30⟩
    | 31, _, h => exact ⟨rfl, (Option.some.inj (Option.some.inj h)) ▸ g31⟩
    | 32, _, h => exact ⟨rfl, (Option.some.inj (Option.some.inj h)) ▸ g32⟩
    | 33, _, h => exact ⟨rfl, (Option.some.inj (Option.some.inj h)) ▸ g33⟩
    | 34, _, h => exact ⟨rfl, (Option.some.inj (Option.some.inj h)) ▸ g34⟩
    | 35, _, h => exact ⟨rfl, (Option.some.inj (Option.some.inj h)) ▸ g35⟩
    | 36, _, h => exact ⟨rfl, (Option.some.inj (Option.some.inj h)) ▸ g36⟩
    | 37, _, h => exact ⟨rfl, (Option.some.inj (Option.some.inj h)) ▸ g37⟩
    | 38, _, h => exact ⟨rfl, (Option.some.inj (Option.some.inj h)) ▸ g38⟩
    | j + 39, hj, _ => exact absurd hj (by omega)
  · cases h
  · simp only [lib, List.mem_cons, List.not_mem_nil, or_false] at h
    rcases h with rfl | rfl | rfl | rfl | rfl | rfl | rfl
    · exact V_MOST_SIZE
    · exact V_MOST_DEPTH
    · exact V_MOST_TOTAL
    · exact V_MOST_AXIOMS
    · exact V_MOST_ROLES
    · exact V_MOST_KINDS
    · exact V_MOST_THINGS
  · simp only [lib, List.mem_cons, List.not_mem_nil, or_false] at h
    rcases h with rfl
    · exact ⟨k0.mgc, k0.cls, ⟨k0.mkc, m3.at_, m3.fn, k0.kp⟩, rfl⟩
  · simp only [lib, List.mem_cons, List.not_mem_nil, or_false] at h
    rcases h with h
    · cases h; cases (Option.some.inj hp); exact ⟨m4, rfl⟩
  · simp only [lib, List.mem_cons, List.not_mem_nil, or_false] at h
    rcases h with h | h | h
    · cases h; cases (Option.some.inj hp); exact n0_0
    · cases h; cases (Option.some.inj hp); exact n0_1
    · cases h; cases (Option.some.inj hp); exact n0_2
  · simp only [lib, excL, List.mem_cons, List.not_mem_nil, or_false] at h
    rcases h with rfl | rfl | rfl
    · exact E_BadTerms
    · exact E_BadTerm
    · exact E_BadWorld
  · simp only [lib, excL, List.mem_cons, List.not_mem_nil, or_false] at ha hb
    rcases ha with rfl | rfl | rfl
    · rcases hb with rfl | rfl | rfl
      · exact P_BadTerms_BadTerms
      · exact P_BadTerms_BadTerm
      · exact P_BadTerms_BadWorld
    · rcases hb with rfl | rfl | rfl
      · exact P_BadTerm_BadTerms
      · exact P_BadTerm_BadTerm
      · exact P_BadTerm_BadWorld
    · rcases hb with rfl | rfl | rfl
      · exact P_BadWorld_BadTerms
      · exact P_BadWorld_BadTerm
      · exact P_BadWorld_BadWorld
theorem law_at {l : PySem.W.OpenLaw} {w : World} {K : PySem.W.Frag} {mg : Str → Option Value} {fa : Addr} (n : Nat) (hfa : mg "law" = some (.ref fa)) (hP : ∃ (C0 : Addr) (ll : List Addr), Prg l.prog K mg (lib C0) D (adrOf ll))
    (hL : ∀ (C0 : Addr), LawS (Gam (lib C0) D n 38)) (hS : ∀ (base : Heap) (L : Lib), (∀ x ∈ stdNames, mg x = none) → L.spcs = stdSpcs → ∀ k, ∀ p ∈ L.spcs, SpcOk l.prog w K mg base k p) :
    ∃ fd : FuncData, (∀ (s : Shared) (u : Value), BindsTo s fd ⟨[u], []⟩ [("script", u)]) ∧ ∀ base : Heap, K.In base → base.Ns mainGlobals mg → FnOk l.prog w K mg base (CX l.prog w) (2 * n) fa fd ["script"] (spT K) := by
  obtain ⟨C0, ll, R⟩ := hP
  have g := (R.fns 38 "law" rfl).2
  have e1 : fa = adrOf ll 38 := by
    have q := hfa.symm.trans g
    injection q with q
    injection q
  subst e1
  obtain ⟨fd, F, B⟩ := (R.ad 38 d38 rfl).ex
  obtain ⟨_, _, _, _, _, _, _, _, _, e0, _, _⟩ := id F.ex
  refine ⟨fd, fun s u => by subst e0; exact .of_eq rfl, fun base _ _ => ?_⟩
  exact MP.FnOk.imp (prg_fn R (stdL_ok R.nms rfl rfl rfl rfl rfl rfl rfl rfl rfl rfl (hS base _ R.nms rfl)) n 38 d38 rfl fd F) (spT_of (hL C0))
end K01
set_option Elab.async false
set_option autoImplicit false
set_option linter.all false
set_option maxRecDepth 100000
namespace K01
open PySem PySem.Spec PyProof.Rows L2 MP
/-! ### values of any kind: tuples of at most L parts, lists of which nothing is asked -/
inductive Vl (p : Addr) (μ : Mem) (L : Nat) : W → Prop
  | non : Vl p μ L .non
  | bl (b : Bool) : Vl p μ L (.bl b)
  | int (i : Int) : Vl p μ L (.int i)
  | str (x : Str) : PyData.strOk x = true → Vl p μ L (.str x)
  | tup (ws : List W) : (∀ w ∈ ws, Vl p μ L w) → ws.length ≤ L → Vl p μ L (.tup ws)
  | lst (a : Addr) (xs : List W) : a ≠ p → μ a = some (.lst xs) → Vl p μ L (.ref a)
theorem Vl.imp {p : Addr} {μ μ' : Mem} {L L' : Nat} (k : ∀ a xs, a ≠ p → μ a = some (.lst xs) → ∃ ys, μ' a = some (.lst ys)) (hL : L ≤ L') : ∀ {v : W}, Vl p μ L v → Vl p μ' L' v := by
  intro v h
  induction h with
  | non => exact .non
  | bl b => exact .bl b
  | int i => exact .int i
  | str x hx => exact .str x hx
  | tup ws _ hl ih => exact .tup ws ih (by omega)
  | lst a xs hn hx =>
    obtain ⟨ys, hy⟩ := k a xs hn hx
    exact .lst a ys hn hy
theorem Vl.sub {p : Addr} {μ μ' : Mem} {L : Nat} {v : W} (h : Vl p μ L v) (s : Sub μ μ') : Vl p μ' L v := h.imp (fun a xs _ e => ⟨xs, s _ _ e⟩) (Nat.le_refl _)
theorem Vl.keep {p : Addr} {μ μ' : Mem} {L : Nat} {v : W} (h : Vl p μ L v) (k : ∀ a xs, μ a = some (.lst xs) ∨ μ a = some (.rol xs) → μ' a = μ a) : Vl p μ' L v := h.imp (fun a xs _ e => ⟨xs, (k a xs (.inl e)).trans e⟩) (Nat.le_refl _)
theorem Vl.mem {p : Addr} {μ : Mem} {L : Nat} {ws : List W} {w : W} (h : Vl p μ L (.tup ws)) (hw : w ∈ ws) : Vl p μ L w := by
  cases h with
  | tup _ h _ => exact h w hw
theorem Vl.len {p : Addr} {μ : Mem} {L : Nat} {ws : List W} (h : Vl p μ L (.tup ws)) : ws.length ≤ L := by
  cases h with
  | tup _ _ h => exact h
def tyV : W → String
  | .non => "NoneType"
  | .bl _ => "bool"
  | .int _ => "int"
  | .str _ => "str"
  | .tup _ => "tuple"
  | _ => "list"
theorem ty_vl {p : Addr} {μ : Mem} {L : Nat} {v : W} (h : Vl p μ L v) : tyOf μ v = some (tyV v) := by
  cases h with
  | lst a xs hn e =>
    simp only [tyOf, e, tyV]
  | _ => rfl
theorem tyV_mem (v : W) : tyV v ∈ tysL := by cases v <;> simp [tyV, tysL]
theorem isiV {p : Addr} {μ : Mem} {L : Nat} {v : W} {T : String} {Q : MQ} (h : Vl p μ L v) (hT : T ∈ tysL) (hn : (T == "NoneType") = false) (q : Q (.bl (isi (tyV v) T)) μ) : oIsi T v μ Q := ⟨tyV v, isi (tyV v) T, ty_vl h, kb (tyV_mem v) hT hn, q⟩
theorem isi_tupV {p : Addr} {μ : Mem} {L : Nat} {v : W} {Q : MQ} (h : Vl p μ L v) (q : Q (.bl (isTup v)) μ) : oIsi "tuple" v μ Q := isiV h (by decide) (by decide) (by
  have e : isi (tyV v) "tuple" = isTup v := by
    cases h <;> first
      | rfl
      | decide
  rw [e]; exact q)
def isS : W → Bool
  | .str _ => true
  | _ => false
def isI : W → Bool
  | .int _ => true
  | .bl _ => true
  | _ => false
def isB : W → Bool
  | .bl _ => true
  | _ => false
theorem isi_strV {p : Addr} {μ : Mem} {L : Nat} {v : W} {Q : MQ} (h : Vl p μ L v) (q : Q (.bl (isS v)) μ) : oIsi "str" v μ Q := isiV h (by decide) (by decide) (by
  have e : isi (tyV v) "str" = isS v := by
    cases h <;> first
      | rfl
      | decide
  rw [e]; exact q)
theorem isi_intV {p : Addr} {μ : Mem} {L : Nat} {v : W} {Q : MQ} (h : Vl p μ L v) (q : Q (.bl (isI v)) μ) : oIsi "int" v μ Q := isiV h (by decide) (by decide) (by
  have e : isi (tyV v) "int" = isI v := by
    cases h <;> first
      | rfl
      | decide
  rw [e]; exact q)
theorem isi_boolV {p : Addr} {μ : Mem} {L : Nat} {v : W} {Q : MQ} (h : Vl p μ L v) (q : Q (.bl (isB v)) μ) : oIsi "bool" v μ Q := isiV h (by decide) (by decide) (by
  have e : isi (tyV v) "bool" = isB v := by
    cases h <;> first
      | rfl
      | decide
  rw [e]; exact q)
/-! ### is_integer, form_of -/
def isInt : W → Int → Int → Bool
  | .int i, lo, hi => decide (lo ≤ i) && decide (i ≤ hi)
  | _, _, _ => false
theorem sp_is_integer {c : List Addr} {n : Nat} {p : Addr} {L : Nat} {v : W} {lo hi : Int} {μ : Mem} (hv : Vl p μ L v) : Pu (Gm c (n + 1) j_is_integer) [v, .int lo, .int hi] μ (.bl (isInt v lo hi)) := fun Q E hq => by
  refine ⟨rfl, ?_⟩
  show dSs _ _ t_is_integer [some v, some (.int lo), some (.int hi)] μ _ _
  simp only [t_is_integer, dSs, dS, dE, dA, dT, dAnds, dOrs, dTAnds, dTOrs, dIfs, dO, dG, dGs, dI, lenGs, sSeq, sIf, sRet, sRetN, sAsg, sDrop, sNext, sPar, sPar3, sBreak, sCont, eVar, eC, eOp, eUn, eChain, eAnd, eOr, eNot, eIte, aNil, aCons, eTup, eLst, eCall, eCB, tVal, tAndM, tOrM, tNotM, eSl, pSome, pNone, eDk0, eDt0, eDkc, gNm, gTp, gNl, gCn, wipeM, List.map_cons, List.map_nil, le_ii, lt_ii, gt_ii, ge_ii, add_ii, sub_ii, iadd_ii, neg_i, len_t, int_i, abs_i, List.getElem?_cons_zero, List.getElem?_cons_succ, List.set_cons_zero, List.set_cons_succ, List.length_cons, List.length_nil, Option.some.injEq, W.bl.injEq, W.int.injEq, W.str.injEq, W.tup.injEq, exists_eq_left', exists_eq_left, ↓reduceIte, Bool.not_true, Bool.not_false, Bool.false_eq_true, if_true, if_false, tb_bop0, tb_bop1, tb_bop2, tb_bop3, tb_bop4, tb_bop5, tb_bop6, tb_aug0, tb_aug1, tb_cop0, tb_cop1, tb_cop2, tb_cop3, tb_cop4, tb_cop5, tb_cop6, tb_cop7, tb_cop8, tb_cop9, tb_cop10, tb_cop11, tb_cop12, tb_ix0, tb_ix1, tb_set0, tb_set1, tb_set2, tb_bc0, tb_bc1, tb_bc2, tb_bc3, tb_bc4, tb_bc5, tb_bc6, tb_bc7, tb_bc8, tb_bc9, tb_bc10, tb_bc11, tb_bc12, tb_bc13, tb_bc14, tb_bc15, tb_bc16, tb_bc17, tb_bc18, tb_lf0, tb_lf1, tb_lf2, tb_lf3, tb_lf4, tb_lf5, tb_lf6, tb_bm0, tb_bm1, tb_bm2, tb_bm3, tb_bm4, tb_it0, tb_it1, tb_it2, tb_it3, tb_it4, tb_spc0, tb_spc1, tb_spc2, lb_bops, lb_augs, lb_cops, lb_ixs, lb_sets, lb_bcs, lb_lfs, lb_bms, lb_its, lb_spcs, lb_cst0, lb_cst1, lb_cst2, lb_cst3, lb_cst4, lb_cst5, lb_cst6, lb_clsA0, lb_clsI0]
  refine isi_intV hv ⟨_, rfl, ?_⟩
  cases hv with
  | int i =>
    refine (if_pos rfl).mpr (isi_boolV (p := p) (L := L) (.int i) ⟨_, rfl, (if_pos rfl).mpr ?_⟩)
    simp only [le_ii]
    refine ⟨_, rfl, ?_⟩
    by_cases h : lo ≤ i
    · rw [decide_eq_true h, if_pos rfl]
      have e : isInt (.int i) lo hi = decide (i ≤ hi) := by
        show (decide (lo ≤ i) && decide (i ≤ hi)) = _
        rw [decide_eq_true h, Bool.true_and]
      rw [← e]
      exact Dn.of hq
    · rw [decide_eq_false h, if_neg Bool.false_ne_true]
      have e : isInt (.int i) lo hi = false := by
        show (decide (lo ≤ i) && decide (i ≤ hi)) = _
        rw [decide_eq_false h, Bool.false_and]
      rw [← e]
      exact Dn.of hq
  | bl b => exact (if_pos rfl).mpr (isi_boolV (p := p) (L := L) (.bl b) ⟨_, rfl, (if_neg Bool.false_ne_true).mpr (Dn.of hq)⟩)
  | non => exact (if_neg Bool.false_ne_true).mpr (Dn.of hq)
  | str x _ => exact (if_neg Bool.false_ne_true).mpr (Dn.of hq)
  | tup x _ _ => exact (if_neg Bool.false_ne_true).mpr (Dn.of hq)
  | lst a xs _ _ => exact (if_neg Bool.false_ne_true).mpr (Dn.of hq)
theorem sp_law_is_int {c : List Addr} {n : Nat} {p : Addr} {L : Nat} {v : W} {lo hi : Int} {μ : Mem} (hv : Vl p μ L v) : Pu (Gm c (n + 1) j_law_is_int) [v, .int lo, .int hi] μ (.bl (isInt v lo hi)) := fun Q E hq => by
  refine ⟨rfl, ?_⟩
  show dSs _ _ t_law_is_int [some v, some (.int lo), some (.int hi)] μ _ _
  simp only [t_law_is_int, dSs, dS, dE, dA, dT, dAnds, dOrs, dTAnds, dTOrs, dIfs, dO, dG, dGs, dI, lenGs, sSeq, sIf, sRet, sRetN, sAsg, sDrop, sNext, sPar, sPar3, sBreak, sCont, eVar, eC, eOp, eUn, eChain, eAnd, eOr, eNot, eIte, aNil, aCons, eTup, eLst, eCall, eCB, tVal, tAndM, tOrM, tNotM, eSl, pSome, pNone, eDk0, eDt0, eDkc, gNm, gTp, gNl, gCn, wipeM, List.map_cons, List.map_nil, le_ii, lt_ii, gt_ii, ge_ii, add_ii, sub_ii, iadd_ii, neg_i, len_t, int_i, abs_i, List.getElem?_cons_zero, List.getElem?_cons_succ, List.set_cons_zero, List.set_cons_succ, List.length_cons, List.length_nil, Option.some.injEq, W.bl.injEq, W.int.injEq, W.str.injEq, W.tup.injEq, exists_eq_left', exists_eq_left, ↓reduceIte, Bool.not_true, Bool.not_false, Bool.false_eq_true, if_true, if_false, tb_bop0, tb_bop1, tb_bop2, tb_bop3, tb_bop4, tb_bop5, tb_bop6, tb_aug0, tb_aug1, tb_cop0, tb_cop1, tb_cop2, tb_cop3, tb_cop4, tb_cop5, tb_cop6, tb_cop7, tb_cop8, tb_cop9, tb_cop10, tb_cop11, tb_cop12, tb_ix0, tb_ix1, tb_set0, tb_set1, tb_set2, tb_bc0, tb_bc1, tb_bc2, tb_bc3, tb_bc4, tb_bc5, tb_bc6, tb_bc7, tb_bc8, tb_bc9, tb_bc10, tb_bc11, tb_bc12, tb_bc13, tb_bc14, tb_bc15, tb_bc16, tb_bc17, tb_bc18, tb_lf0, tb_lf1, tb_lf2, tb_lf3, tb_lf4, tb_lf5, tb_lf6, tb_bm0, tb_bm1, tb_bm2, tb_bm3, tb_bm4, tb_it0, tb_it1, tb_it2, tb_it3, tb_it4, tb_spc0, tb_spc1, tb_spc2, lb_bops, lb_augs, lb_cops, lb_ixs, lb_sets, lb_bcs, lb_lfs, lb_bms, lb_its, lb_spcs, lb_cst0, lb_cst1, lb_cst2, lb_cst3, lb_cst4, lb_cst5, lb_cst6, lb_clsA0, lb_clsI0]
  refine isi_intV hv ⟨_, rfl, ?_⟩
  cases hv with
  | int i =>
    refine (if_pos rfl).mpr (isi_boolV (p := p) (L := L) (.int i) ⟨_, rfl, (if_pos rfl).mpr ?_⟩)
    simp only [le_ii]
    refine ⟨_, rfl, ?_⟩
    by_cases h : lo ≤ i
    · rw [decide_eq_true h, if_pos rfl]
      have e : isInt (.int i) lo hi = decide (i ≤ hi) := by
        show (decide (lo ≤ i) && decide (i ≤ hi)) = _
        rw [decide_eq_true h, Bool.true_and]
      rw [← e]
      exact Dn.of hq
    · rw [decide_eq_false h, if_neg Bool.false_ne_true]
      have e : isInt (.int i) lo hi = false := by
        show (decide (lo ≤ i) && decide (i ≤ hi)) = _
        rw [decide_eq_false h, Bool.false_and]
      rw [← e]
      exact Dn.of hq
  | bl b => exact (if_pos rfl).mpr (isi_boolV (p := p) (L := L) (.bl b) ⟨_, rfl, (if_neg Bool.false_ne_true).mpr (Dn.of hq)⟩)
  | non => exact (if_neg Bool.false_ne_true).mpr (Dn.of hq)
  | str x _ => exact (if_neg Bool.false_ne_true).mpr (Dn.of hq)
  | tup x _ _ => exact (if_neg Bool.false_ne_true).mpr (Dn.of hq)
  | lst a xs _ _ => exact (if_neg Bool.false_ne_true).mpr (Dn.of hq)
def fst : W → Str
  | .tup (.str s :: _) => s
  | _ => ""
def fnum : W → Int
  | .tup (.str _ :: r) => (r.length : Int) + 1
  | _ => 0
theorem form_tail {s : Str} {ws : List W} : ((W.str s :: ws).length : Int) = fnum (.tup (.str s :: ws)) := by
  show ((ws.length + 1 : Nat) : Int) = (ws.length : Int) + 1
  omega
theorem sp_form_of {c : List Addr} {n : Nat} {p : Addr} {L : Nat} {v : W} {μ : Mem} (hv : Vl p μ L v) : Pu (Gm c (n + 1) j_form_of) [v] μ (fW (fst v) (fnum v)) := fun Q E hq => by
  refine ⟨rfl, ?_⟩
  show dSs _ _ t_form_of [some v] μ _ _
  simp only [t_form_of, dSs, dS, dE, dA, dT, dAnds, dOrs, dTAnds, dTOrs, dIfs, dO, dG, dGs, dI, lenGs, sSeq, sIf, sRet, sRetN, sAsg, sDrop, sNext, sPar, sPar3, sBreak, sCont, eVar, eC, eOp, eUn, eChain, eAnd, eOr, eNot, eIte, aNil, aCons, eTup, eLst, eCall, eCB, tVal, tAndM, tOrM, tNotM, eSl, pSome, pNone, eDk0, eDt0, eDkc, gNm, gTp, gNl, gCn, wipeM, List.map_cons, List.map_nil, le_ii, lt_ii, gt_ii, ge_ii, add_ii, sub_ii, iadd_ii, neg_i, len_t, int_i, abs_i, List.getElem?_cons_zero, List.getElem?_cons_succ, List.set_cons_zero, List.set_cons_succ, List.length_cons, List.length_nil, Option.some.injEq, W.bl.injEq, W.int.injEq, W.str.injEq, W.tup.injEq, exists_eq_left', exists_eq_left, ↓reduceIte, Bool.not_true, Bool.not_false, Bool.false_eq_true, if_true, if_false, tb_bop0, tb_bop1, tb_bop2, tb_bop3, tb_bop4, tb_bop5, tb_bop6, tb_aug0, tb_aug1, tb_cop0, tb_cop1, tb_cop2, tb_cop3, tb_cop4, tb_cop5, tb_cop6, tb_cop7, tb_cop8, tb_cop9, tb_cop10, tb_cop11, tb_cop12, tb_ix0, tb_ix1, tb_set0, tb_set1, tb_set2, tb_bc0, tb_bc1, tb_bc2, tb_bc3, tb_bc4, tb_bc5, tb_bc6, tb_bc7, tb_bc8, tb_bc9, tb_bc10, tb_bc11, tb_bc12, tb_bc13, tb_bc14, tb_bc15, tb_bc16, tb_bc17, tb_bc18, tb_lf0, tb_lf1, tb_lf2, tb_lf3, tb_lf4, tb_lf5, tb_lf6, tb_bm0, tb_bm1, tb_bm2, tb_bm3, tb_bm4, tb_it0, tb_it1, tb_it2, tb_it3, tb_it4, tb_spc0, tb_spc1, tb_spc2, lb_bops, lb_augs, lb_cops, lb_ixs, lb_sets, lb_bcs, lb_lfs, lb_bms, lb_its, lb_spcs, lb_cst0, lb_cst1, lb_cst2, lb_cst3, lb_cst4, lb_cst5, lb_cst6, lb_clsA0, lb_clsI0]
  refine isi_tupV hv ⟨_, rfl, ?_⟩
  cases hv with
  | tup ws h hl =>
    refine (if_neg (by simp [isTup])).mpr ⟨Nat.zero_le _, ?_⟩
    cases ws with
    | nil => exact (show oEqE (.tup []) (.tup []) μ _ from ⟨_, rfl, (if_pos rfl).mpr ⟨by decide, Dn.of hq⟩⟩)
    | cons w ws =>
      refine (show oEqE (.tup (w :: ws)) (.tup []) μ _ from ⟨_, rfl, (if_neg (by simp)).mpr ?_⟩)
      have hw := h w List.mem_cons_self
      refine ix_t (i := 0) rfl (isi_strV hw ⟨_, rfl, ?_⟩)
      cases hw with
      | str s hs =>
        refine (if_neg (by simp [isS])).mpr (ix_t (i := 0) rfl ?_)
        simp only [len_t]
        exact ⟨by decide, Dn.of (by rw [form_tail]; exact hq)⟩
      | _ => exact (if_pos rfl).mpr ⟨by decide, Dn.of hq⟩
  | _ => exact (if_pos rfl).mpr ⟨by decide, Dn.of hq⟩
theorem sp_law_form {c : List Addr} {n : Nat} {p : Addr} {L : Nat} {v : W} {μ : Mem} (hv : Vl p μ L v) : Pu (Gm c (n + 1) j_law_form) [v] μ (fW (fst v) (fnum v)) := fun Q E hq => by
  refine ⟨rfl, ?_⟩
  show dSs _ _ t_law_form [some v] μ _ _
  simp only [t_law_form, dSs, dS, dE, dA, dT, dAnds, dOrs, dTAnds, dTOrs, dIfs, dO, dG, dGs, dI, lenGs, sSeq, sIf, sRet, sRetN, sAsg, sDrop, sNext, sPar, sPar3, sBreak, sCont, eVar, eC, eOp, eUn, eChain, eAnd, eOr, eNot, eIte, aNil, aCons, eTup, eLst, eCall, eCB, tVal, tAndM, tOrM, tNotM, eSl, pSome, pNone, eDk0, eDt0, eDkc, gNm, gTp, gNl, gCn, wipeM, List.map_cons, List.map_nil, le_ii, lt_ii, gt_ii, ge_ii, add_ii, sub_ii, iadd_ii, neg_i, len_t, int_i, abs_i, List.getElem?_cons_zero, List.getElem?_cons_succ, List.set_cons_zero, List.set_cons_succ, List.length_cons, List.length_nil, Option.some.injEq, W.bl.injEq, W.int.injEq, W.str.injEq, W.tup.injEq, exists_eq_left', exists_eq_left, ↓reduceIte, Bool.not_true, Bool.not_false, Bool.false_eq_true, if_true, if_false, tb_bop0, tb_bop1, tb_bop2, tb_bop3, tb_bop4, tb_bop5, tb_bop6, tb_aug0, tb_aug1, tb_cop0, tb_cop1, tb_cop2, tb_cop3, tb_cop4, tb_cop5, tb_cop6, tb_cop7, tb_cop8, tb_cop9, tb_cop10, tb_cop11, tb_cop12, tb_ix0, tb_ix1, tb_set0, tb_set1, tb_set2, tb_bc0, tb_bc1, tb_bc2, tb_bc3, tb_bc4, tb_bc5, tb_bc6, tb_bc7, tb_bc8, tb_bc9, tb_bc10, tb_bc11, tb_bc12, tb_bc13, tb_bc14, tb_bc15, tb_bc16, tb_bc17, tb_bc18, tb_lf0, tb_lf1, tb_lf2, tb_lf3, tb_lf4, tb_lf5, tb_lf6, tb_bm0, tb_bm1, tb_bm2, tb_bm3, tb_bm4, tb_it0, tb_it1, tb_it2, tb_it3, tb_it4, tb_spc0, tb_spc1, tb_spc2, lb_bops, lb_augs, lb_cops, lb_ixs, lb_sets, lb_bcs, lb_lfs, lb_bms, lb_its, lb_spcs, lb_cst0, lb_cst1, lb_cst2, lb_cst3, lb_cst4, lb_cst5, lb_cst6, lb_clsA0, lb_clsI0]
  refine isi_tupV hv ⟨_, rfl, ?_⟩
  cases hv with
  | tup ws h hl =>
    refine (if_neg (by simp [isTup])).mpr ?_
    simp only [len_t]
    cases ws with
    | nil => exact o_eqi ⟨_, rfl, (if_pos (by decide)).mpr ⟨by decide, Dn.of hq⟩⟩
    | cons w ws =>
      refine o_eqi ⟨_, rfl, (if_neg (by rw [decide_eq_true_eq, List.length_cons]; omega)).mpr ?_⟩
      have hw := h w List.mem_cons_self
      refine ix_t (i := 0) rfl (isi_strV hw ⟨_, rfl, ?_⟩)
      cases hw with
      | str s hs =>
        refine (if_neg (by simp [isS])).mpr (ix_t (i := 0) rfl ?_)
        exact ⟨by decide, Dn.of (by rw [form_tail]; exact hq)⟩
      | _ => exact (if_pos rfl).mpr ⟨by decide, Dn.of hq⟩
  | _ => exact (if_pos rfl).mpr ⟨by decide, Dn.of hq⟩
/-! ### Form -/
abbrev nK : Str := "_kinds"
abbrev nR : Str := "_roles"
abbrev nM : Str := "_many"
abbrev nG : Str := "is_good"
def objF (k r m : Int) : List (Str × W) := [(nK, .int k), (nR, .int r), (nM, .int m)]
def nthW : W → Nat → W
  | .tup xs, i => xs.getD i .non
  | _, _ => .non
/-- is_good: the answer, and how many parts were seen -/
def good (k r : Int) : Nat → W → Int → Bool × Int
  | 0, _, m => (false, m + 1)
  | l + 1, v, m => if 60 < m + 1 then (false, m + 1) else
    if (decide (fst v = "any") && decide (fnum v = 1)) || (decide (fst v = "none") && decide (fnum v = 1)) then (true, m + 1) else
    if decide (fst v = "kind") && decide (fnum v = 2) then (isInt (nthW v 1) 0 (k - 1), m + 1) else
    if decide (fst v = "some") && decide (fnum v = 3) then (if isInt (nthW v 1) 0 (r - 1) then good k r l (nthW v 2) (m + 1) else (false, m + 1)) else
    if decide (fst v = "both") && decide (fnum v = 3) then (if (good k r l (nthW v 1) (m + 1)).1 then good k r l (nthW v 2) (good k r l (nthW v 1) (m + 1)).2 else (false, (good k r l (nthW v 1) (m + 1)).2)) else (false, m + 1)
theorem put1 {w : W} : putW nK w [] = [(nK, w)] := rfl
theorem put2 {w x : W} : putW nR x [(nK, w)] = [(nK, w), (nR, x)] := by
  unfold putW
  rw [if_neg (by decide +kernel)]
  rfl
theorem put3 {w x y : W} : putW nM y [(nK, w), (nR, x)] = [(nK, w), (nR, x), (nM, y)] := by
  unfold putW
  rw [if_neg (by decide +kernel)]
  unfold putW
  rw [if_neg (by decide +kernel)]
  rfl
theorem put4 {k r m m' : Int} : putW nM (.int m') (objF k r m) = objF k r m' := by
  unfold objF putW
  rw [if_neg (by decide +kernel)]
  unfold putW
  rw [if_neg (by decide +kernel)]
  unfold putW
  rw [if_pos rfl]
theorem look_k {k r m : Int} : (objF k r m).lookup nK = some (.int k) := by
  unfold objF
  rw [List.lookup_cons, beq_self_eq_true]
theorem look_r {k r m : Int} : (objF k r m).lookup nR = some (.int r) := by
  unfold objF
  rw [List.lookup_cons, show (nR == nK) = false by decide +kernel]
  simp only
  rw [List.lookup_cons, beq_self_eq_true]
theorem look_m {k r m : Int} : (objF k r m).lookup nM = some (.int m) := by
  unfold objF
  rw [List.lookup_cons, show (nM == nK) = false by decide +kernel]
  simp only
  rw [List.lookup_cons, show (nM == nR) = false by decide +kernel]
  simp only
  rw [List.lookup_cons, beq_self_eq_true]
theorem look_g {k r m : Int} : (objF k r m).lookup nG = none := by
  unfold objF
  rw [List.lookup_cons, show (nG == nK) = false by decide +kernel]
  simp only
  rw [List.lookup_cons, show (nG == nR) = false by decide +kernel]
  simp only
  rw [List.lookup_cons, show (nG == nM) = false by decide +kernel]
  rfl
theorem sk0 : PyData.strOk "" = true := by decide +kernel
theorem sp_Form_init {c : List Addr} {n : Nat} {p dx : Addr} {k r : Int} {μ : Mem} (hp : μ p = some (.ins (c.getD 0 0) dx [])) : Gv (Gm c (n + 1) j_Form_init) [.ref p, .int k, .int r] μ (fun x μ' => x = .non ∧ ∃ dx', μ' = updM μ p (.ins (c.getD 0 0) dx' (objF k r 0))) := fun Q E hq => by
  refine ⟨rfl, ?_⟩
  show dSs _ _ t_Form_init [some (.ref p), some (.int k), some (.int r)] μ _ _
  simp only [t_Form_init, dSs, dS, dE, dA, dT, dAnds, dOrs, dTAnds, dTOrs, dIfs, dO, dG, dGs, dI, lenGs, sSeq, sIf, sRet, sRetN, sAsg, sDrop, sNext, sPar, sPar3, sBreak, sCont, eVar, eC, eOp, eUn, eChain, eAnd, eOr, eNot, eIte, aNil, aCons, eTup, eLst, eCall, eCB, tVal, tAndM, tOrM, tNotM, eSl, pSome, pNone, eDk0, eDt0, eDkc, gNm, gTp, gNl, gCn, wipeM, List.map_cons, List.map_nil, le_ii, lt_ii, gt_ii, ge_ii, add_ii, sub_ii, iadd_ii, neg_i, len_t, int_i, abs_i, List.getElem?_cons_zero, List.getElem?_cons_succ, List.set_cons_zero, List.set_cons_succ, List.length_cons, List.length_nil, Option.some.injEq, W.bl.injEq, W.int.injEq, W.str.injEq, W.tup.injEq, exists_eq_left', exists_eq_left, ↓reduceIte, Bool.not_true, Bool.not_false, Bool.false_eq_true, if_true, if_false, tb_bop0, tb_bop1, tb_bop2, tb_bop3, tb_bop4, tb_bop5, tb_bop6, tb_aug0, tb_aug1, tb_cop0, tb_cop1, tb_cop2, tb_cop3, tb_cop4, tb_cop5, tb_cop6, tb_cop7, tb_cop8, tb_cop9, tb_cop10, tb_cop11, tb_cop12, tb_ix0, tb_ix1, tb_set0, tb_set1, tb_set2, tb_bc0, tb_bc1, tb_bc2, tb_bc3, tb_bc4, tb_bc5, tb_bc6, tb_bc7, tb_bc8, tb_bc9, tb_bc10, tb_bc11, tb_bc12, tb_bc13, tb_bc14, tb_bc15, tb_bc16, tb_bc17, tb_bc18, tb_lf0, tb_lf1, tb_lf2, tb_lf3, tb_lf4, tb_lf5, tb_lf6, tb_bm0, tb_bm1, tb_bm2, tb_bm3, tb_bm4, tb_it0, tb_it1, tb_it2, tb_it3, tb_it4, tb_spc0, tb_spc1, tb_spc2, lb_bops, lb_augs, lb_cops, lb_ixs, lb_sets, lb_bcs, lb_lfs, lb_bms, lb_its, lb_spcs, lb_cst0, lb_cst1, lb_cst2, lb_cst3, lb_cst4, lb_cst5, lb_cst6, lb_clsA0, lb_clsI0, sFldM]
  refine ⟨p, dx, [], rfl, hp, by decide, p, dx, _, rfl, updM_same, ?_, p, dx, _, rfl, updM_same, ?_, Dn.of (hq _ _ ⟨rfl, dx, ?_⟩)⟩
  · rw [put1]; exact (by decide : 1 < 1000)
  · rw [put1, put2]; exact (by decide : 2 < 1000)
  · rw [put1, put2, put3, updM_updM, updM_updM]; rfl
theorem keep_ins {μ : Mem} {p C dx dx' : Addr} {fs fs' : List (Str × W)} (hp : μ p = some (.ins C dx fs)) : ∀ a xs, μ a = some (.lst xs) ∨ μ a = some (.rol xs) → updM μ p (.ins C dx' fs') a = μ a := fun a xs h => updM_ne fun e => by
  subst e
  rw [hp] at h
  rcases h with h | h <;> cases h
theorem sk_any : PyData.strOk "any" = true := by decide +kernel
theorem sk_none : PyData.strOk "none" = true := by decide +kernel
theorem sk_kind : PyData.strOk "kind" = true := by decide +kernel
theorem sk_some : PyData.strOk "some" = true := by decide +kernel
theorem sk_both : PyData.strOk "both" = true := by decide +kernel
theorem vl_nth {p : Addr} {L : Nat} {μ : Mem} {v : W} (h : Vl p μ L v) (i : Nat) (hi : (i : Int) < fnum v) : ∃ w ws, v = .tup ws ∧ ws[i]? = some w ∧ nthW v i = w ∧ Vl p μ L w := by
  cases v with
  | tup ws =>
    have hl : i < ws.length := by
      cases ws with
      | nil => simp [fnum] at hi; omega
      | cons w ws =>
        cases w <;> simp [fnum] at hi ⊢ <;> omega
    have e : ws[i]? = some ws[i] := List.getElem?_eq_getElem hl
    refine ⟨_, ws, rfl, e, ?_, h.mem (List.mem_of_getElem? e)⟩
    show ws.getD i .non = _
    rw [List.getD_eq_getElem?_getD, e]
    rfl
  | non => simp [fnum] at hi; omega
  | bl b => simp [fnum] at hi; omega
  | int b => simp [fnum] at hi; omega
  | str b => simp [fnum] at hi; omega
  | ref b => simp [fnum] at hi; omega
  | ty b => simp [fnum] at hi; omega
  | rl b => simp [fnum] at hi; omega
theorem vl_fst {p : Addr} {L : Nat} {μ : Mem} {v : W} (h : Vl p μ L v) : PyData.strOk (fst v) = true := by
  cases v with
  | tup ws =>
    cases ws with
    | nil => exact sk0
    | cons w ws =>
      cases w with
      | str s =>
        have := h.mem List.mem_cons_self
        cases this with
        | str _ hs => exact hs
      | _ => exact sk0
  | _ => exact sk0
theorem sp_is_good {c : List Addr} {p pb : Addr} {L : Nat} {k r : Int} : ∀ (l n : Nat) (v : W) (m : Int) (dx : Addr) (μ : Mem), l + 2 ≤ n → Vl pb μ L v → μ p = some (.ins (c.getD 0 0) dx (objF k r m)) →
    Gv (Gm c n j_Form_is_good) [.ref p, v, .int l] μ (fun x μ' => x = .bl (good k r l v m).1 ∧ ∃ dx', μ' = updM μ p (.ins (c.getD 0 0) dx' (objF k r (good k r l v m).2))) := by
  intro l
  induction l with
  | zero =>
    intro n v m dx μ hn hv hp Q E hq
    obtain ⟨n, rfl⟩ : ∃ j, n = j + 1 := ⟨n - 1, by omega⟩
    refine ⟨rfl, ?_⟩
    show dSs _ _ t_Form_is_good [some (.ref p), some v, some (.int 0), none] μ _ _
    simp only [t_Form_is_good, dSs, dS, dE, dA, dT, dAnds, dOrs, dTAnds, dTOrs, dIfs, dO, dG, dGs, dI, lenGs, sSeq, sIf, sRet, sRetN, sAsg, sDrop, sNext, sPar, sPar3, sBreak, sCont, eVar, eC, eOp, eUn, eChain, eAnd, eOr, eNot, eIte, aNil, aCons, eTup, eLst, eCall, eCB, tVal, tAndM, tOrM, tNotM, eSl, pSome, pNone, eDk0, eDt0, eDkc, gNm, gTp, gNl, gCn, wipeM, List.map_cons, List.map_nil, le_ii, lt_ii, gt_ii, ge_ii, add_ii, sub_ii, iadd_ii, neg_i, len_t, int_i, abs_i, List.getElem?_cons_zero, List.getElem?_cons_succ, List.set_cons_zero, List.set_cons_succ, List.length_cons, List.length_nil, Option.some.injEq, W.bl.injEq, W.int.injEq, W.str.injEq, W.tup.injEq, exists_eq_left', exists_eq_left, ↓reduceIte, Bool.not_true, Bool.not_false, Bool.false_eq_true, if_true, if_false, tb_bop0, tb_bop1, tb_bop2, tb_bop3, tb_bop4, tb_bop5, tb_bop6, tb_aug0, tb_aug1, tb_cop0, tb_cop1, tb_cop2, tb_cop3, tb_cop4, tb_cop5, tb_cop6, tb_cop7, tb_cop8, tb_cop9, tb_cop10, tb_cop11, tb_cop12, tb_ix0, tb_ix1, tb_set0, tb_set1, tb_set2, tb_bc0, tb_bc1, tb_bc2, tb_bc3, tb_bc4, tb_bc5, tb_bc6, tb_bc7, tb_bc8, tb_bc9, tb_bc10, tb_bc11, tb_bc12, tb_bc13, tb_bc14, tb_bc15, tb_bc16, tb_bc17, tb_bc18, tb_lf0, tb_lf1, tb_lf2, tb_lf3, tb_lf4, tb_lf5, tb_lf6, tb_bm0, tb_bm1, tb_bm2, tb_bm3, tb_bm4, tb_it0, tb_it1, tb_it2, tb_it3, tb_it4, tb_spc0, tb_spc1, tb_spc2, lb_bops, lb_augs, lb_cops, lb_ixs, lb_sets, lb_bcs, lb_lfs, lb_bms, lb_its, lb_spcs, lb_cst0, lb_cst1, lb_cst2, lb_cst3, lb_cst4, lb_cst5, lb_cst6, lb_clsA0, lb_clsI0, sFldAugM, eFld]
    refine ⟨p, dx, _, .int m, rfl, hp, look_m, ?_⟩
    simp only [iadd_ii]
    refine ⟨dx, _, hp, (by decide : 3 < 1000), o_eqi ⟨_, rfl, (if_pos (by decide)).mpr (Dn.of (hq _ _ ⟨rfl, dx, ?_⟩))⟩⟩
    rw [put4]
    rfl
  | succ l ih =>
    intro n v m dx μ hn hv hp Q E hq
    obtain ⟨n, rfl⟩ : ∃ j, n = j + 1 + 1 := ⟨n - 2, by omega⟩
    have el : (((l + 1 : Nat) : Int) - 1) = (l : Int) := by omega
    refine ⟨rfl, ?_⟩
    show dSs _ _ t_Form_is_good [some (.ref p), some v, some (.int ((l + 1 : Nat) : Int)), none] μ _ _
    simp only [t_Form_is_good, dSs, dS, dE, dA, dT, dAnds, dOrs, dTAnds, dTOrs, dIfs, dO, dG, dGs, dI, lenGs, sSeq, sIf, sRet, sRetN, sAsg, sDrop, sNext, sPar, sPar3, sBreak, sCont, eVar, eC, eOp, eUn, eChain, eAnd, eOr, eNot, eIte, aNil, aCons, eTup, eLst, eCall, eCB, tVal, tAndM, tOrM, tNotM, eSl, pSome, pNone, eDk0, eDt0, eDkc, gNm, gTp, gNl, gCn, wipeM, List.map_cons, List.map_nil, le_ii, lt_ii, gt_ii, ge_ii, add_ii, sub_ii, iadd_ii, neg_i, len_t, int_i, abs_i, List.getElem?_cons_zero, List.getElem?_cons_succ, List.set_cons_zero, List.set_cons_succ, List.length_cons, List.length_nil, Option.some.injEq, W.bl.injEq, W.int.injEq, W.str.injEq, W.tup.injEq, exists_eq_left', exists_eq_left, ↓reduceIte, Bool.not_true, Bool.not_false, Bool.false_eq_true, if_true, if_false, tb_bop0, tb_bop1, tb_bop2, tb_bop3, tb_bop4, tb_bop5, tb_bop6, tb_aug0, tb_aug1, tb_cop0, tb_cop1, tb_cop2, tb_cop3, tb_cop4, tb_cop5, tb_cop6, tb_cop7, tb_cop8, tb_cop9, tb_cop10, tb_cop11, tb_cop12, tb_ix0, tb_ix1, tb_set0, tb_set1, tb_set2, tb_bc0, tb_bc1, tb_bc2, tb_bc3, tb_bc4, tb_bc5, tb_bc6, tb_bc7, tb_bc8, tb_bc9, tb_bc10, tb_bc11, tb_bc12, tb_bc13, tb_bc14, tb_bc15, tb_bc16, tb_bc17, tb_bc18, tb_lf0, tb_lf1, tb_lf2, tb_lf3, tb_lf4, tb_lf5, tb_lf6, tb_bm0, tb_bm1, tb_bm2, tb_bm3, tb_bm4, tb_it0, tb_it1, tb_it2, tb_it3, tb_it4, tb_spc0, tb_spc1, tb_spc2, lb_bops, lb_augs, lb_cops, lb_ixs, lb_sets, lb_bcs, lb_lfs, lb_bms, lb_its, lb_spcs, lb_cst0, lb_cst1, lb_cst2, lb_cst3, lb_cst4, lb_cst5, lb_cst6, lb_clsA0, lb_clsI0, sFldAugM, eFld, eMeth]
    refine ⟨p, dx, _, .int m, rfl, hp, look_m, ?_⟩
    simp only [iadd_ii, el]
    refine ⟨dx, _, hp, (by decide : 3 < 1000), o_eqi ⟨_, rfl, (if_neg (by rw [decide_eq_true_eq]; omega)).mpr ?_⟩⟩
    rw [put4]
    have hp1 : (updM μ p (.ins (c.getD 0 0) dx (objF k r (m + 1)))) p = some (.ins (c.getD 0 0) dx (objF k r (m + 1))) := updM_same
    have hv1 := hv.keep (keep_ins (dx' := dx) (fs' := objF k r (m + 1)) hp)
    refine ⟨p, dx, _, .int (m + 1), rfl, hp1, look_m, ?_⟩
    simp only [gt_ii]
    refine ⟨_, rfl, ?_⟩
    by_cases h60 : 60 < m + 1
    · have e : good k r (l + 1) v m = (false, m + 1) := by unfold good; rw [if_pos h60]
      rw [e] at hq
      exact (if_pos (decide_eq_true h60)).mpr (Dn.of (hq _ _ ⟨rfl, dx, rfl⟩))
    · refine (if_neg (by rw [decide_eq_true_eq]; exact h60)).mpr (call_pu (sp_form_of hv1) ?_)
      have s0 := vl_fst hv
      refine ⟨by decide, by decide, by decide, o_inf s0 sk_any sk_none ⟨_, rfl, ?_⟩⟩
      by_cases hA : ((decide (fst v = "any") && decide (fnum v = 1)) || (decide (fst v = "none") && decide (fnum v = 1))) = true
      · have e : good k r (l + 1) v m = (true, m + 1) := by unfold good; rw [if_neg h60, if_pos hA]
        rw [e] at hq
        exact (if_pos hA).mpr (Dn.of (hq _ _ ⟨rfl, dx, rfl⟩))
      · refine (if_neg hA).mpr ?_
        refine ⟨by decide, o_eqf s0 sk_kind ⟨_, rfl, ?_⟩⟩
        by_cases hB : (decide (fst v = "kind") && decide (fnum v = 2)) = true
        · have e : good k r (l + 1) v m = (isInt (nthW v 1) 0 (k - 1), m + 1) := by unfold good; rw [if_neg h60, if_neg hA, if_pos hB]
          rw [e] at hq
          have hN : fnum v = 2 := by simp at hB; exact hB.2
          obtain ⟨w, ws, rfl, a1, a2, o1⟩ := vl_nth hv1 1 (by omega)
          refine (if_pos hB).mpr (ix_t (i := 1) a1 ⟨p, dx, _, .int k, rfl, hp1, look_k, ?_⟩)
          simp only [sub_ii]
          refine call_pu (sp_is_integer o1) (Dn.of (hq _ _ ⟨?_, dx, rfl⟩))
          rw [a2]
        · refine (if_neg hB).mpr ⟨by decide, o_eqf s0 sk_some ⟨_, rfl, ?_⟩⟩
          by_cases hC : (decide (fst v = "some") && decide (fnum v = 3)) = true
          · have e : good k r (l + 1) v m = if isInt (nthW v 1) 0 (r - 1) then good k r l (nthW v 2) (m + 1) else (false, m + 1) := by
              show (if 60 < m + 1 then _ else _) = _
              rw [if_neg h60, if_neg hA, if_neg hB, if_pos hC]
            rw [e] at hq
            have hN : fnum v = 3 := by simp at hC; exact hC.2
            obtain ⟨w, ws, rfl, a1, a2, o1⟩ := vl_nth hv1 1 (by omega)
            refine (if_pos hC).mpr (ix_t (i := 1) a1 ⟨p, dx, _, .int r, rfl, hp1, look_r, ?_⟩)
            simp only [sub_ii]
            refine call_pu (sp_is_integer o1) ⟨_, rfl, ?_⟩
            rw [a2] at hq
            by_cases hI : isInt w 0 (r - 1) = true
            · rw [if_pos hI] at hq
              obtain ⟨w2, ws2, e0, b1, b2, o2⟩ := vl_nth hv1 2 (by omega)
              cases e0
              refine (if_pos hI).mpr ⟨p, dx, _, rfl, hp1, look_g, ix_t (i := 2) b1 (call_gv (ih (n + 1) w2 (m + 1) dx _ (by omega) o2 hp1) fun x μ' hx => ?_)⟩
              obtain ⟨hx1, dx', hx2⟩ := hx
              rw [b2] at hq
              exact Dn.of (hq _ _ ⟨hx1, dx', by rw [hx2, updM_updM]⟩)
            · rw [if_neg hI] at hq
              exact (if_neg hI).mpr (Dn.of (hq _ _ ⟨rfl, dx, rfl⟩))
          · refine (if_neg hC).mpr ⟨by decide, o_nef s0 sk_both ⟨_, rfl, ?_⟩⟩
            by_cases hD : (decide (fst v = "both") && decide (fnum v = 3)) = true
            · have e : good k r (l + 1) v m = if (good k r l (nthW v 1) (m + 1)).1 then good k r l (nthW v 2) (good k r l (nthW v 1) (m + 1)).2 else (false, (good k r l (nthW v 1) (m + 1)).2) := by
                show (if 60 < m + 1 then _ else _) = _
                rw [if_neg h60, if_neg hA, if_neg hB, if_neg hC, if_pos hD]
              rw [e] at hq
              have hN : fnum v = 3 := by simp at hD; exact hD.2
              obtain ⟨w, ws, rfl, a1, a2, o1⟩ := vl_nth hv1 1 (by omega)
              obtain ⟨w2, ws2, e0, b1, b2, o2⟩ := vl_nth hv1 2 (by omega)
              cases e0
              rw [a2, b2] at hq
              refine (if_neg (by rw [hD]; decide)).mpr ⟨p, dx, _, rfl, hp1, look_g, ix_t (i := 1) a1 (call_gv (ih (n + 1) w (m + 1) dx _ (by omega) o1 hp1) fun x μ' hx => ?_)⟩
              obtain ⟨hx1, dx', hx2⟩ := hx
              rw [updM_updM] at hx2
              subst hx1 hx2
              refine ⟨_, rfl, ?_⟩
              have hp2 : (updM μ p (.ins (c.getD 0 0) dx' (objF k r (good k r l w (m + 1)).2))) p = some (.ins (c.getD 0 0) dx' (objF k r (good k r l w (m + 1)).2)) := updM_same
              have o2' : Vl pb (updM μ p (.ins (c.getD 0 0) dx' (objF k r (good k r l w (m + 1)).2))) L w2 := by
                have := o2.keep (keep_ins (dx' := dx') (fs' := objF k r (good k r l w (m + 1)).2) hp1)
                rw [updM_updM] at this
                exact this
              by_cases hG : (good k r l w (m + 1)).1 = true
              · rw [if_pos hG] at hq
                refine (if_pos hG).mpr ⟨p, dx', _, rfl, hp2, look_g, ix_t (i := 2) b1 (call_gv (ih (n + 1) w2 _ dx' _ (by omega) o2' hp2) fun x μ' hx => ?_)⟩
                obtain ⟨hx1, dx2, hx2⟩ := hx
                exact Dn.of (hq _ _ ⟨hx1, dx2, by rw [hx2, updM_updM]⟩)
              · rw [if_neg hG] at hq
                exact (if_neg hG).mpr (Dn.of (hq _ _ ⟨rfl, dx', rfl⟩))
            · have e : good k r (l + 1) v m = (false, m + 1) := by
                show (if 60 < m + 1 then _ else _) = _
                rw [if_neg h60, if_neg hA, if_neg hB, if_neg hC, if_neg hD]
              rw [e] at hq
              have hD' : (decide (fst v = "both") && decide (fnum v = 3)) = false := by simpa using hD
              refine (if_pos (by rw [hD']; rfl)).mpr (Dn.of (hq _ _ ⟨rfl, dx, rfl⟩))
theorem sp_is_term_over {c : List Addr} {n : Nat} {pb : Addr} {L : Nat} {k r : Int} {v : W} {μ : Mem} (hn : 23 ≤ n) (hv : Vl pb μ L v) : Pu (Gm c n j_is_term_over) [.int k, .int r, v] μ (.bl (good k r 20 v 0).1) := fun Q E hq => by
  obtain ⟨n, rfl⟩ : ∃ j, n = j + 1 + 1 := ⟨n - 2, by omega⟩
  refine ⟨rfl, ?_⟩
  show dSs _ _ t_is_term_over [some (.int k), some (.int r), some v] μ _ _
  simp only [t_is_term_over, dSs, dS, dE, dA, dT, dAnds, dOrs, dTAnds, dTOrs, dIfs, dO, dG, dGs, dI, lenGs, sSeq, sIf, sRet, sRetN, sAsg, sDrop, sNext, sPar, sPar3, sBreak, sCont, eVar, eC, eOp, eUn, eChain, eAnd, eOr, eNot, eIte, aNil, aCons, eTup, eLst, eCall, eCB, tVal, tAndM, tOrM, tNotM, eSl, pSome, pNone, eDk0, eDt0, eDkc, gNm, gTp, gNl, gCn, wipeM, List.map_cons, List.map_nil, le_ii, lt_ii, gt_ii, ge_ii, add_ii, sub_ii, iadd_ii, neg_i, len_t, int_i, abs_i, List.getElem?_cons_zero, List.getElem?_cons_succ, List.set_cons_zero, List.set_cons_succ, List.length_cons, List.length_nil, Option.some.injEq, W.bl.injEq, W.int.injEq, W.str.injEq, W.tup.injEq, exists_eq_left', exists_eq_left, ↓reduceIte, Bool.not_true, Bool.not_false, Bool.false_eq_true, if_true, if_false, tb_bop0, tb_bop1, tb_bop2, tb_bop3, tb_bop4, tb_bop5, tb_bop6, tb_aug0, tb_aug1, tb_cop0, tb_cop1, tb_cop2, tb_cop3, tb_cop4, tb_cop5, tb_cop6, tb_cop7, tb_cop8, tb_cop9, tb_cop10, tb_cop11, tb_cop12, tb_ix0, tb_ix1, tb_set0, tb_set1, tb_set2, tb_bc0, tb_bc1, tb_bc2, tb_bc3, tb_bc4, tb_bc5, tb_bc6, tb_bc7, tb_bc8, tb_bc9, tb_bc10, tb_bc11, tb_bc12, tb_bc13, tb_bc14, tb_bc15, tb_bc16, tb_bc17, tb_bc18, tb_lf0, tb_lf1, tb_lf2, tb_lf3, tb_lf4, tb_lf5, tb_lf6, tb_bm0, tb_bm1, tb_bm2, tb_bm3, tb_bm4, tb_it0, tb_it1, tb_it2, tb_it3, tb_it4, tb_spc0, tb_spc1, tb_spc2, lb_bops, lb_augs, lb_cops, lb_ixs, lb_sets, lb_bcs, lb_lfs, lb_bms, lb_its, lb_spcs, lb_cst0, lb_cst1, lb_cst2, lb_cst3, lb_cst4, lb_cst5, lb_cst6, lb_clsA0, lb_clsI0, eMeth, eMake]
  intro p dx hp
  have hp1 : (updM μ p (.ins (c.getD 0 0) dx [])) p = some (.ins (c.getD 0 0) dx []) := updM_same
  refine call_gv (sp_Form_init hp1) fun x μ' hx => ?_
  obtain ⟨hx1, dx', hx2⟩ := hx
  rw [updM_updM] at hx2
  subst hx1 hx2
  have hp2 : (updM μ p (.ins (c.getD 0 0) dx' (objF k r 0))) p = some (.ins (c.getD 0 0) dx' (objF k r 0)) := updM_same
  have hv2 : Vl pb (updM μ p (.ins (c.getD 0 0) dx' (objF k r 0))) L v := hv.keep fun a xs h => updM_ne fun e => by
    subst e
    rw [hp] at h
    rcases h with h | h <;> cases h
  refine ⟨rfl, p, dx', _, rfl, hp2, look_g, call_gv (sp_is_good 20 (n + 1) v 0 dx' _ (by omega) hv2 hp2) fun x μ' hx => ?_⟩
  obtain ⟨hx1, dx2, hx2⟩ := hx
  subst hx1 hx2
  rw [updM_updM]
  exact Dn.sub (sub_upd hp) hq
end K01
set_option Elab.async false
set_option autoImplicit false
set_option linter.all false
set_option maxRecDepth 100000
namespace K01
open PySem PySem.Spec PyProof.Rows L2 MP
theorem o_gti {i j : Int} {μ : Mem} {Q : MQ} (q : Q (.bl (decide (j < i))) μ) : oGt (.int i) (.int j) μ Q := q
theorem o_addi {i j : Int} {μ : Mem} {Q : MQ} (q : Q (.int (i + j)) μ) : oAdd (.int i) (.int j) μ Q := q
theorem o_infL {s t u : Str} {n m k : Int} {a : Addr} {μ : Mem} {Q : MQ} (h1 : PyData.strOk s = true) (h2 : PyData.strOk t = true) (h3 : PyData.strOk u = true) (ha : μ a = some (.lst [.tup [.str t, .int m], .tup [.str u, .int k]])) (q : Q (.bl ((decide (s = t) && decide (n = m)) || (decide (s = u) && decide (n = k)))) μ) :
    oIn false (.tup [.str s, .int n]) (.ref a) μ Q := by
  refine ⟨fD s n, [fD t m, fD u k], fDat, .inl (.lst ha (.cons fDat (.cons fDat .nil))), fsh h1, ?_, ?_⟩
  · have a1 := fsh (n := m) h2
    have a2 := fsh (n := k) h3
    unfold SeqAt.shaped at a1 a2 ⊢
    rw [Bool.and_eq_true] at a1 a2
    show ((PyData.canLay0 (fD t m) && (PyData.canLay0 (fD u k) && true)) && decide (2 ≤ 64)) = true
    rw [a1.1, a2.1]
    rfl
  · rw [if_neg Bool.false_ne_true, List.any_cons, List.any_cons, List.any_nil, feq, feq, Bool.or_false]
    have e1 : decide (t = s) = decide (s = t) := decide_eq_decide.mpr eq_comm
    have e2 : decide (m = n) = decide (n = m) := decide_eq_decide.mpr eq_comm
    have e3 : decide (u = s) = decide (s = u) := decide_eq_decide.mpr eq_comm
    have e4 : decide (k = n) = decide (n = k) := decide_eq_decide.mpr eq_comm
    rw [e1, e2, e3, e4]
    exact q
/-- the store, but for what stands at f -/
def Kp (f : Addr) (μ μ' : Mem) : Prop := ∀ a o, a ≠ f → μ a = some o → μ' a = some o
theorem Kp.refl {f : Addr} {μ : Mem} : Kp f μ μ := fun _ _ _ e => e
theorem Kp.trans {f : Addr} {μ μ1 μ2 : Mem} (a : Kp f μ μ1) (b : Kp f μ1 μ2) : Kp f μ μ2 := fun x o n e => b x o n (a x o n e)
theorem Kp.upd {f : Addr} {μ : Mem} {o : MO} : Kp f μ (updM μ f o) := fun a o' n e => by rw [updM_ne n]; exact e
theorem Kp.new {f q : Addr} {μ : Mem} {o : MO} (h : μ q = none) : Kp f μ (updM μ q o) := fun a o' _ e => sub_upd h a o' e
theorem Kp.of {f : Addr} {μ μ' : Mem} (s : Sub μ μ') : Kp f μ μ' := fun a o _ e => s a o e
theorem kp_sub {f : Addr} {μ0 μ μ' : Mem} (h0 : μ0 f = none) (s : Sub μ0 μ) (k : Kp f μ μ') : Sub μ0 μ' := fun a o e => k a o (fun z => by subst z; rw [h0] at e; cases e) (s a o e)
abbrev mKey : Key := .inr "many"
def manyO (m : Int) : MO := .dk [(mKey, .int m)]
theorem val_many {m : Int} : valM [(mKey, W.int m)] mKey = some (.int m) := by rw [valM_cons, if_pos rfl]
theorem put_many {m m' : Int} : putM [(mKey, W.int m)] mKey (.int m') = [(mKey, .int m')] := by
  unfold putM
  rw [if_pos (by rw [List.any_cons, decide_eq_true rfl, Bool.true_or])]
  simp
theorem ix_many {s : Addr} {m : Int} {μ : Mem} {Q : MQ} (h : μ s = some (manyO m)) (q : Q (.int m) μ) : oIxK (.ref s) (.str "many") μ Q := ⟨_, mKey, .int m, h, rfl, val_many, q⟩
theorem st_many {s : Addr} {m m' : Int} {μ : Mem} {Q : Mem → Prop} (h : μ s = some (manyO m)) (q : Q (updM μ s (manyO m'))) : sDk (.ref s) (.str "many") (.int m') μ Q := ⟨_, mKey, h, rfl, by show 1 < sizeLine; decide, by rw [put_many]; exact q⟩
theorem vl_kp {p s : Addr} {L : Nat} {m : Int} {μ μ' : Mem} {v : W} (h : Vl p μ L v) (hs : μ s = some (manyO m)) (k : Kp s μ μ') : Vl p μ' L v := h.imp (fun a xs _ e => ⟨xs, k a _ (fun z => by subst z; rw [hs] at e; cases e) e⟩) (Nat.le_refl _)
theorem sp_law_is_term {c : List Addr} {s pb : Addr} {L : Nat} {k r : Int} : ∀ (l n : Nat) (v : W) (m : Int) (μ : Mem), l + 2 ≤ n → Vl pb μ L v → μ s = some (manyO m) →
    Gv (Gm c n j_law_is_term) [.ref s, v, .int k, .int r, .int l] μ (fun x μ' => x = .bl (good k r l v m).1 ∧ μ' s = some (manyO (good k r l v m).2) ∧ Kp s μ μ') := by
  intro l
  induction l with
  | zero =>
    intro n v m μ hn hv hs Q E hq
    obtain ⟨n, rfl⟩ : ∃ j, n = j + 1 := ⟨n - 1, by omega⟩
    refine ⟨rfl, ?_⟩
    show dSs _ _ t_law_is_term [some (.ref s), some v, some (.int k), some (.int r), some (.int 0), none] μ _ _
    simp only [t_law_is_term, dSs, dS, dE, dA, dT, dAnds, dOrs, dTAnds, dTOrs, dIfs, dO, dG, dGs, dI, lenGs, sSeq, sIf, sRet, sRetN, sAsg, sDrop, sNext, sPar, sPar3, sBreak, sCont, eVar, eC, eOp, eUn, eChain, eAnd, eOr, eNot, eIte, aNil, aCons, eTup, eLst, eCall, eCB, tVal, tAndM, tOrM, tNotM, eSl, pSome, pNone, eDk0, eDt0, eDkc, gNm, gTp, gNl, gCn, wipeM, List.map_cons, List.map_nil, le_ii, lt_ii, gt_ii, ge_ii, add_ii, sub_ii, iadd_ii, neg_i, len_t, int_i, abs_i, List.getElem?_cons_zero, List.getElem?_cons_succ, List.set_cons_zero, List.set_cons_succ, List.length_cons, List.length_nil, Option.some.injEq, W.bl.injEq, W.int.injEq, W.str.injEq, W.tup.injEq, exists_eq_left', exists_eq_left, ↓reduceIte, Bool.not_true, Bool.not_false, Bool.false_eq_true, if_true, if_false, tb_bop0, tb_bop1, tb_bop2, tb_bop3, tb_bop4, tb_bop5, tb_bop6, tb_aug0, tb_aug1, tb_cop0, tb_cop1, tb_cop2, tb_cop3, tb_cop4, tb_cop5, tb_cop6, tb_cop7, tb_cop8, tb_cop9, tb_cop10, tb_cop11, tb_cop12, tb_ix0, tb_ix1, tb_set0, tb_set1, tb_set2, tb_bc0, tb_bc1, tb_bc2, tb_bc3, tb_bc4, tb_bc5, tb_bc6, tb_bc7, tb_bc8, tb_bc9, tb_bc10, tb_bc11, tb_bc12, tb_bc13, tb_bc14, tb_bc15, tb_bc16, tb_bc17, tb_bc18, tb_lf0, tb_lf1, tb_lf2, tb_lf3, tb_lf4, tb_lf5, tb_lf6, tb_bm0, tb_bm1, tb_bm2, tb_bm3, tb_bm4, tb_it0, tb_it1, tb_it2, tb_it3, tb_it4, tb_spc0, tb_spc1, tb_spc2, lb_bops, lb_augs, lb_cops, lb_ixs, lb_sets, lb_bcs, lb_lfs, lb_bms, lb_its, lb_spcs, lb_cst0, lb_cst1, lb_cst2, lb_cst3, lb_cst4, lb_cst5, lb_cst6, lb_clsA0, lb_clsI0, gSb]
    exact ix_many hs (o_addi (st_many hs (o_eqi ⟨_, rfl, (if_pos (by decide)).mpr (Dn.of (hq _ _ ⟨rfl, updM_same, Kp.upd⟩))⟩)))
  | succ l ih =>
    intro n v m μ hn hv hs Q E hq
    obtain ⟨n, rfl⟩ : ∃ j, n = j + 1 + 1 := ⟨n - 2, by omega⟩
    have el : (((l + 1 : Nat) : Int) - 1) = (l : Int) := by omega
    refine ⟨rfl, ?_⟩
    show dSs _ _ t_law_is_term [some (.ref s), some v, some (.int k), some (.int r), some (.int ((l + 1 : Nat) : Int)), none] μ _ _
    simp only [t_law_is_term, dSs, dS, dE, dA, dT, dAnds, dOrs, dTAnds, dTOrs, dIfs, dO, dG, dGs, dI, lenGs, sSeq, sIf, sRet, sRetN, sAsg, sDrop, sNext, sPar, sPar3, sBreak, sCont, eVar, eC, eOp, eUn, eChain, eAnd, eOr, eNot, eIte, aNil, aCons, eTup, eLst, eCall, eCB, tVal, tAndM, tOrM, tNotM, eSl, pSome, pNone, eDk0, eDt0, eDkc, gNm, gTp, gNl, gCn, wipeM, List.map_cons, List.map_nil, le_ii, lt_ii, gt_ii, ge_ii, add_ii, sub_ii, iadd_ii, neg_i, len_t, int_i, abs_i, List.getElem?_cons_zero, List.getElem?_cons_succ, List.set_cons_zero, List.set_cons_succ, List.length_cons, List.length_nil, Option.some.injEq, W.bl.injEq, W.int.injEq, W.str.injEq, W.tup.injEq, exists_eq_left', exists_eq_left, ↓reduceIte, Bool.not_true, Bool.not_false, Bool.false_eq_true, if_true, if_false, tb_bop0, tb_bop1, tb_bop2, tb_bop3, tb_bop4, tb_bop5, tb_bop6, tb_aug0, tb_aug1, tb_cop0, tb_cop1, tb_cop2, tb_cop3, tb_cop4, tb_cop5, tb_cop6, tb_cop7, tb_cop8, tb_cop9, tb_cop10, tb_cop11, tb_cop12, tb_ix0, tb_ix1, tb_set0, tb_set1, tb_set2, tb_bc0, tb_bc1, tb_bc2, tb_bc3, tb_bc4, tb_bc5, tb_bc6, tb_bc7, tb_bc8, tb_bc9, tb_bc10, tb_bc11, tb_bc12, tb_bc13, tb_bc14, tb_bc15, tb_bc16, tb_bc17, tb_bc18, tb_lf0, tb_lf1, tb_lf2, tb_lf3, tb_lf4, tb_lf5, tb_lf6, tb_bm0, tb_bm1, tb_bm2, tb_bm3, tb_bm4, tb_it0, tb_it1, tb_it2, tb_it3, tb_it4, tb_spc0, tb_spc1, tb_spc2, lb_bops, lb_augs, lb_cops, lb_ixs, lb_sets, lb_bcs, lb_lfs, lb_bms, lb_its, lb_spcs, lb_cst0, lb_cst1, lb_cst2, lb_cst3, lb_cst4, lb_cst5, lb_cst6, lb_clsA0, lb_clsI0, gSb, el]
    have hs1 : (updM μ s (manyO (m + 1))) s = some (manyO (m + 1)) := updM_same
    have k1 : Kp s μ (updM μ s (manyO (m + 1))) := Kp.upd
    have hv1 := vl_kp hv hs k1
    refine ix_many hs (o_addi (st_many hs (o_eqi ⟨_, rfl, (if_neg (by rw [decide_eq_true_eq]; omega)).mpr (ix_many hs1 (o_gti ⟨_, rfl, ?_⟩))⟩)))
    generalize updM μ s (manyO (m + 1)) = μ1 at hs1 k1 hv1 ⊢
    by_cases h60 : 60 < m + 1
    · have e : good k r (l + 1) v m = (false, m + 1) := by unfold good; rw [if_pos h60]
      rw [e] at hq
      exact (if_pos (decide_eq_true h60)).mpr (Dn.of (hq _ _ ⟨rfl, hs1, k1⟩))
    · refine (if_neg (by rw [decide_eq_true_eq]; exact h60)).mpr (call_pu (sp_law_form hv1) ?_)
      have s0 := vl_fst hv
      refine ⟨by decide, by decide, by decide, fun a ha => o_infL s0 sk_any sk_none updM_same ⟨_, rfl, ?_⟩⟩
      have hs2 : (updM μ1 a (.lst [.tup [.str "any", .int 1], .tup [.str "none", .int 1]])) s = some (manyO (m + 1)) := sub_upd ha _ _ hs1
      have k2 : Kp s μ (updM μ1 a (.lst [.tup [.str "any", .int 1], .tup [.str "none", .int 1]])) := k1.trans (Kp.new ha)
      have hv2 := hv1.sub (sub_upd (o := .lst [.tup [.str "any", .int 1], .tup [.str "none", .int 1]]) ha)
      generalize updM μ1 a (.lst [.tup [.str "any", .int 1], .tup [.str "none", .int 1]]) = μ2 at hs2 k2 hv2 ⊢
      by_cases hA : ((decide (fst v = "any") && decide (fnum v = 1)) || (decide (fst v = "none") && decide (fnum v = 1))) = true
      · have e : good k r (l + 1) v m = (true, m + 1) := by unfold good; rw [if_neg h60, if_pos hA]
        rw [e] at hq
        exact (if_pos hA).mpr (Dn.of (hq _ _ ⟨rfl, hs2, k2⟩))
      · refine (if_neg hA).mpr ?_
        refine ⟨by decide, o_eqf s0 sk_kind ⟨_, rfl, ?_⟩⟩
        by_cases hB : (decide (fst v = "kind") && decide (fnum v = 2)) = true
        · have e : good k r (l + 1) v m = (isInt (nthW v 1) 0 (k - 1), m + 1) := by unfold good; rw [if_neg h60, if_neg hA, if_pos hB]
          rw [e] at hq
          have hN : fnum v = 2 := by simp at hB; exact hB.2
          obtain ⟨w, ws, rfl, a1, a2, o1⟩ := vl_nth hv2 1 (by omega)
          refine (if_pos hB).mpr (ix_t (i := 1) a1 (call_pu (sp_law_is_int o1) (Dn.of (hq _ _ ⟨?_, hs2, k2⟩))))
          rw [a2]
        · refine (if_neg hB).mpr ⟨by decide, o_eqf s0 sk_some ⟨_, rfl, ?_⟩⟩
          by_cases hC : (decide (fst v = "some") && decide (fnum v = 3)) = true
          · have e : good k r (l + 1) v m = if isInt (nthW v 1) 0 (r - 1) then good k r l (nthW v 2) (m + 1) else (false, m + 1) := by
              show (if 60 < m + 1 then _ else _) = _
              rw [if_neg h60, if_neg hA, if_neg hB, if_pos hC]
            rw [e] at hq
            have hN : fnum v = 3 := by simp at hC; exact hC.2
            obtain ⟨w, ws, rfl, a1, a2, o1⟩ := vl_nth hv2 1 (by omega)
            refine (if_pos hC).mpr (ix_t (i := 1) a1 (call_pu (sp_law_is_int o1) ⟨_, rfl, ?_⟩))
            rw [a2] at hq
            by_cases hI : isInt w 0 (r - 1) = true
            · rw [if_pos hI] at hq
              obtain ⟨w2, ws2, e0, b1, b2, o2⟩ := vl_nth hv2 2 (by omega)
              cases e0
              refine (if_pos hI).mpr (ix_t (i := 2) b1 (call_gv (ih (n + 1) w2 (m + 1) _ (by omega) o2 hs2) fun x μ' hx => ?_))
              obtain ⟨hx1, hx2, hx3⟩ := hx
              rw [b2] at hq
              exact Dn.of (hq _ _ ⟨hx1, hx2, k2.trans hx3⟩)
            · rw [if_neg hI] at hq
              have hI' : isInt w 0 (r - 1) = false := by simpa using hI
              rw [hI']
              exact (if_neg Bool.false_ne_true).mpr (Dn.of (hq _ _ ⟨rfl, hs2, k2⟩))
          · refine (if_neg hC).mpr ⟨by decide, o_nef s0 sk_both ⟨_, rfl, ?_⟩⟩
            by_cases hD : (decide (fst v = "both") && decide (fnum v = 3)) = true
            · have e : good k r (l + 1) v m = if (good k r l (nthW v 1) (m + 1)).1 then good k r l (nthW v 2) (good k r l (nthW v 1) (m + 1)).2 else (false, (good k r l (nthW v 1) (m + 1)).2) := by
                show (if 60 < m + 1 then _ else _) = _
                rw [if_neg h60, if_neg hA, if_neg hB, if_neg hC, if_pos hD]
              rw [e] at hq
              have hN : fnum v = 3 := by simp at hD; exact hD.2
              obtain ⟨w, ws, rfl, a1, a2, o1⟩ := vl_nth hv2 1 (by omega)
              obtain ⟨w2, ws2, e0, b1, b2, o2⟩ := vl_nth hv2 2 (by omega)
              cases e0
              rw [a2, b2] at hq
              refine (if_neg (by rw [hD]; decide)).mpr (ix_t (i := 1) a1 (call_gv (ih (n + 1) w (m + 1) _ (by omega) o1 hs2) fun x μ3 hx => ?_))
              obtain ⟨rfl, hs3, k3⟩ := hx
              refine ⟨_, rfl, ?_⟩
              by_cases hG : (good k r l w (m + 1)).1 = true
              · rw [if_pos hG] at hq
                refine (if_pos hG).mpr (ix_t (i := 2) b1 (call_gv (ih (n + 1) w2 _ _ (by omega) (vl_kp o2 hs2 k3) hs3) fun x μ' hx => ?_))
                obtain ⟨hx1, hx2, hx3⟩ := hx
                exact Dn.of (hq _ _ ⟨hx1, hx2, k2.trans (k3.trans hx3)⟩)
              · rw [if_neg hG] at hq
                have hG' : (good k r l w (m + 1)).1 = false := by simpa using hG
                rw [hG']
                exact (if_neg Bool.false_ne_true).mpr (Dn.of (hq _ _ ⟨rfl, hs3, k2.trans k3⟩))
            · have e : good k r (l + 1) v m = (false, m + 1) := by
                show (if 60 < m + 1 then _ else _) = _
                rw [if_neg h60, if_neg hA, if_neg hB, if_neg hC, if_neg hD]
              rw [e] at hq
              have hD' : (decide (fst v = "both") && decide (fnum v = 3)) = false := by simpa using hD
              exact (if_pos (by rw [hD']; rfl)).mpr (Dn.of (hq _ _ ⟨rfl, hs2, k2⟩))
end K01
set_option Elab.async false
set_option autoImplicit false
set_option linter.all false
set_option maxRecDepth 100000
namespace K01
open PySem PySem.Spec PyProof.Rows L2 MP
theorem strOk_fst {μ : Mem} {v : W} {d : PyData} (h : OkV μ v d) : PyData.strOk (fst v) = true := by
  cases v with
  | tup ws =>
    cases ws with
    | nil => exact sk0
    | cons w ws =>
      cases w with
      | str s =>
        obtain ⟨e, h1, h2⟩ := h.mem List.mem_cons_self
        cases h1
        have h2 := fine_sh h2
        unfold SeqAt.shaped at h2
        rw [Bool.and_eq_true] at h2
        exact h2.1
      | _ => exact sk0
  | _ => exact sk0
theorem sp_size_of {c : List Addr} : ∀ (j n : Nat) (ws : List W) (d : PyData) (μ : Mem), d.depth ≤ j → j + 1 ≤ n → OkV μ (.tup ws) d → Pu (Gm c n j_size_of) [.tup ws] μ (.int (szW (.tup ws))) := by
  intro j
  induction j with
  | zero =>
    intro n ws d μ hd _ hv
    cases hv.1
    exact absurd hd (by show ¬ (PyData.depthAll _ + 1 ≤ 0); omega)
  | succ j ih =>
    intro n ws d μ hd hn hv Q E hq
    obtain ⟨n, rfl⟩ : ∃ j, n = j + 1 := ⟨n - 1, by omega⟩
    refine ⟨rfl, ?_⟩
    show dSs _ _ t_size_of [some (.tup ws), none] μ _ _
    simp only [t_size_of, dSs, dS, dE, dA, dT, dAnds, dOrs, dTAnds, dTOrs, dIfs, dO, dG, dGs, dI, lenGs, sSeq, sIf, sRet, sRetN, sAsg, sDrop, sNext, sPar, sPar3, sBreak, sCont, eVar, eC, eOp, eUn, eChain, eAnd, eOr, eNot, eIte, aNil, aCons, eTup, eLst, eCall, eCB, tVal, tAndM, tOrM, tNotM, eSl, pSome, pNone, eDk0, eDt0, eDkc, gNm, gTp, gNl, gCn, wipeM, List.map_cons, List.map_nil, le_ii, lt_ii, gt_ii, ge_ii, add_ii, sub_ii, iadd_ii, neg_i, len_t, int_i, abs_i, List.getElem?_cons_zero, List.getElem?_cons_succ, List.set_cons_zero, List.set_cons_succ, List.length_cons, List.length_nil, Option.some.injEq, W.bl.injEq, W.int.injEq, W.str.injEq, W.tup.injEq, exists_eq_left', exists_eq_left, ↓reduceIte, Bool.not_true, Bool.not_false, Bool.false_eq_true, if_true, if_false, tb_bop0, tb_bop1, tb_bop2, tb_bop3, tb_bop4, tb_bop5, tb_bop6, tb_aug0, tb_aug1, tb_cop0, tb_cop1, tb_cop2, tb_cop3, tb_cop4, tb_cop5, tb_cop6, tb_cop7, tb_cop8, tb_cop9, tb_cop10, tb_cop11, tb_cop12, tb_ix0, tb_ix1, tb_set0, tb_set1, tb_set2, tb_bc0, tb_bc1, tb_bc2, tb_bc3, tb_bc4, tb_bc5, tb_bc6, tb_bc7, tb_bc8, tb_bc9, tb_bc10, tb_bc11, tb_bc12, tb_bc13, tb_bc14, tb_bc15, tb_bc16, tb_bc17, tb_bc18, tb_lf0, tb_lf1, tb_lf2, tb_lf3, tb_lf4, tb_lf5, tb_lf6, tb_bm0, tb_bm1, tb_bm2, tb_bm3, tb_bm4, tb_it0, tb_it1, tb_it2, tb_it3, tb_it4, tb_spc0, tb_spc1, tb_spc2, lb_bops, lb_augs, lb_cops, lb_ixs, lb_sets, lb_bcs, lb_lfs, lb_bms, lb_its, lb_spcs, lb_cst0, lb_cst1, lb_cst2, lb_cst3, lb_cst4, lb_cst5, lb_cst6, lb_clsA0, lb_clsI0, eLcI, iSq, cut1]
    refine loopC_pure isTup (fun w => .int (szW w)) trivial _ _ (fun w hw Q' q => ?_) (fun w hw hP Q' q => ?_) ?_ ?_
    · obtain ⟨e, he⟩ := hv.mem (List.mem_of_mem_drop hw)
      exact ⟨w, rfl, isi_tup he.1 ⟨_, rfl, q⟩⟩
    · obtain ⟨e, he, hdep⟩ := ok_memD hv (List.mem_of_mem_drop hw)
      cases w with
      | tup us => exact ⟨.tup us, rfl, call_pu (ih n us e μ (by omega) (by omega) he) q⟩
      | _ => cases hP
    · have := hv.len
      rw [List.length_nil, List.length_drop]
      exact le_line (by omega)
    · rw [List.nil_append]
      refine ⟨((ws.drop 1).filter isTup).map szW, by rw [List.map_map]; rfl, ?_⟩
      simp only [add_ii]
      have e : szW (.tup ws) = 1 + (((ws.drop 1).filter isTup).map szW).sum := by rw [szW, szT_drop, szL_sum]
      rw [← e]
      exact Dn.of hq
def tailW : W → List W
  | .tup (_ :: r) => r
  | _ => []
def isAx (k r : Int) (v : W) : Bool :=
  if decide (fst v = "is") && decide (fnum v = 3) then (good k r 20 (nthW v 1) 0).1 && (good k r 20 (nthW v 2) 0).1 else
  if (decide (fst v = "within") && decide (fnum v = 3)) || (decide (fst v = "chain") && decide (fnum v = 4)) then (tailW v).all fun w => isInt w 0 (r - 1) else false
theorem sk_is : PyData.strOk "is" = true := by decide +kernel
theorem sk_within : PyData.strOk "within" = true := by decide +kernel
theorem sk_chain : PyData.strOk "chain" = true := by decide +kernel
theorem sk_terms : PyData.strOk "terms" = true := by decide +kernel
def axSz (v : W) : Int := szW (nthW v 1) + szW (nthW v 2)
def isIs (v : W) : Bool := decide (fst v = "is")
def totW (axs : List W) : Int := ((axs.filter isIs).map axSz).sum
/-- three parts, the last two tuples, where the first is the word is -/
def IsFit (v : W) : Prop := ∃ s r, v = .tup (.str s :: r) ∧ (s = ("is" : Str) → ∃ xs ys, r = [.tup xs, .tup ys])
theorem sp_total_of {c : List Addr} {n : Nat} {axs : List W} {d : PyData} {μ : Mem} (hn : 70 ≤ n) (hv : OkV μ (.tup axs) d) (hf : ∀ v ∈ axs, IsFit v) : Pu (Gm c n j_total_of) [.tup axs] μ (.int (totW axs)) := fun Q E hq => by
  obtain ⟨n, rfl⟩ : ∃ j, n = j + 1 := ⟨n - 1, by omega⟩
  refine ⟨rfl, ?_⟩
  show dSs _ _ t_total_of [some (.tup axs), none] μ _ _
  simp only [t_total_of, dSs, dS, dE, dA, dT, dAnds, dOrs, dTAnds, dTOrs, dIfs, dO, dG, dGs, dI, lenGs, sSeq, sIf, sRet, sRetN, sAsg, sDrop, sNext, sPar, sPar3, sBreak, sCont, eVar, eC, eOp, eUn, eChain, eAnd, eOr, eNot, eIte, aNil, aCons, eTup, eLst, eCall, eCB, tVal, tAndM, tOrM, tNotM, eSl, pSome, pNone, eDk0, eDt0, eDkc, gNm, gTp, gNl, gCn, wipeM, List.map_cons, List.map_nil, le_ii, lt_ii, gt_ii, ge_ii, add_ii, sub_ii, iadd_ii, neg_i, len_t, int_i, abs_i, List.getElem?_cons_zero, List.getElem?_cons_succ, List.set_cons_zero, List.set_cons_succ, List.length_cons, List.length_nil, Option.some.injEq, W.bl.injEq, W.int.injEq, W.str.injEq, W.tup.injEq, exists_eq_left', exists_eq_left, ↓reduceIte, Bool.not_true, Bool.not_false, Bool.false_eq_true, if_true, if_false, tb_bop0, tb_bop1, tb_bop2, tb_bop3, tb_bop4, tb_bop5, tb_bop6, tb_aug0, tb_aug1, tb_cop0, tb_cop1, tb_cop2, tb_cop3, tb_cop4, tb_cop5, tb_cop6, tb_cop7, tb_cop8, tb_cop9, tb_cop10, tb_cop11, tb_cop12, tb_ix0, tb_ix1, tb_set0, tb_set1, tb_set2, tb_bc0, tb_bc1, tb_bc2, tb_bc3, tb_bc4, tb_bc5, tb_bc6, tb_bc7, tb_bc8, tb_bc9, tb_bc10, tb_bc11, tb_bc12, tb_bc13, tb_bc14, tb_bc15, tb_bc16, tb_bc17, tb_bc18, tb_lf0, tb_lf1, tb_lf2, tb_lf3, tb_lf4, tb_lf5, tb_lf6, tb_bm0, tb_bm1, tb_bm2, tb_bm3, tb_bm4, tb_it0, tb_it1, tb_it2, tb_it3, tb_it4, tb_spc0, tb_spc1, tb_spc2, lb_bops, lb_augs, lb_cops, lb_ixs, lb_sets, lb_bcs, lb_lfs, lb_bms, lb_its, lb_spcs, lb_cst0, lb_cst1, lb_cst2, lb_cst3, lb_cst4, lb_cst5, lb_cst6, lb_clsA0, lb_clsI0, eLcI, iSq]
  refine loopC_pure isIs (fun w => .int (axSz w)) trivial _ _ (fun w hw Q' q => ?_) (fun w hw hP Q' q => ?_) ?_ ?_
  · obtain ⟨s, r, rfl, h⟩ := hf w hw
    obtain ⟨e, he⟩ := hv.mem hw
    have s0 := strOk_fst he
    simp only [dSs, dS, dE, dA, dT, dAnds, dOrs, dTAnds, dTOrs, dIfs, dO, dG, dGs, dI, lenGs, sSeq, sIf, sRet, sRetN, sAsg, sDrop, sNext, sPar, sPar3, sBreak, sCont, eVar, eC, eOp, eUn, eChain, eAnd, eOr, eNot, eIte, aNil, aCons, eTup, eLst, eCall, eCB, tVal, tAndM, tOrM, tNotM, eSl, pSome, pNone, eDk0, eDt0, eDkc, gNm, gTp, gNl, gCn, wipeM, List.map_cons, List.map_nil, le_ii, lt_ii, gt_ii, ge_ii, add_ii, sub_ii, iadd_ii, neg_i, len_t, int_i, abs_i, List.getElem?_cons_zero, List.getElem?_cons_succ, List.set_cons_zero, List.set_cons_succ, List.length_cons, List.length_nil, Option.some.injEq, W.bl.injEq, W.int.injEq, W.str.injEq, W.tup.injEq, exists_eq_left', exists_eq_left, ↓reduceIte, Bool.not_true, Bool.not_false, Bool.false_eq_true, if_true, if_false, tb_bop0, tb_bop1, tb_bop2, tb_bop3, tb_bop4, tb_bop5, tb_bop6, tb_aug0, tb_aug1, tb_cop0, tb_cop1, tb_cop2, tb_cop3, tb_cop4, tb_cop5, tb_cop6, tb_cop7, tb_cop8, tb_cop9, tb_cop10, tb_cop11, tb_cop12, tb_ix0, tb_ix1, tb_set0, tb_set1, tb_set2, tb_bc0, tb_bc1, tb_bc2, tb_bc3, tb_bc4, tb_bc5, tb_bc6, tb_bc7, tb_bc8, tb_bc9, tb_bc10, tb_bc11, tb_bc12, tb_bc13, tb_bc14, tb_bc15, tb_bc16, tb_bc17, tb_bc18, tb_lf0, tb_lf1, tb_lf2, tb_lf3, tb_lf4, tb_lf5, tb_lf6, tb_bm0, tb_bm1, tb_bm2, tb_bm3, tb_bm4, tb_it0, tb_it1, tb_it2, tb_it3, tb_it4, tb_spc0, tb_spc1, tb_spc2, lb_bops, lb_augs, lb_cops, lb_ixs, lb_sets, lb_bcs, lb_lfs, lb_bms, lb_its, lb_spcs, lb_cst0, lb_cst1, lb_cst2, lb_cst3, lb_cst4, lb_cst5, lb_cst6, lb_clsA0, lb_clsI0]
    exact ix_t (i := 0) rfl (o_eqs s0 sk_is ⟨_, rfl, q⟩)
  · obtain ⟨s, r, rfl, h⟩ := hf w hw
    obtain ⟨xs, ys, rfl⟩ := h (of_decide_eq_true hP)
    obtain ⟨e, he, hd⟩ := ok_memD hv hw
    obtain ⟨e1, h1⟩ := he.mem (w := .tup xs) (by simp)
    obtain ⟨e2, h2⟩ := he.mem (w := .tup ys) (by simp)
    simp only [dSs, dS, dE, dA, dT, dAnds, dOrs, dTAnds, dTOrs, dIfs, dO, dG, dGs, dI, lenGs, sSeq, sIf, sRet, sRetN, sAsg, sDrop, sNext, sPar, sPar3, sBreak, sCont, eVar, eC, eOp, eUn, eChain, eAnd, eOr, eNot, eIte, aNil, aCons, eTup, eLst, eCall, eCB, tVal, tAndM, tOrM, tNotM, eSl, pSome, pNone, eDk0, eDt0, eDkc, gNm, gTp, gNl, gCn, wipeM, List.map_cons, List.map_nil, le_ii, lt_ii, gt_ii, ge_ii, add_ii, sub_ii, iadd_ii, neg_i, len_t, int_i, abs_i, List.getElem?_cons_zero, List.getElem?_cons_succ, List.set_cons_zero, List.set_cons_succ, List.length_cons, List.length_nil, Option.some.injEq, W.bl.injEq, W.int.injEq, W.str.injEq, W.tup.injEq, exists_eq_left', exists_eq_left, ↓reduceIte, Bool.not_true, Bool.not_false, Bool.false_eq_true, if_true, if_false, tb_bop0, tb_bop1, tb_bop2, tb_bop3, tb_bop4, tb_bop5, tb_bop6, tb_aug0, tb_aug1, tb_cop0, tb_cop1, tb_cop2, tb_cop3, tb_cop4, tb_cop5, tb_cop6, tb_cop7, tb_cop8, tb_cop9, tb_cop10, tb_cop11, tb_cop12, tb_ix0, tb_ix1, tb_set0, tb_set1, tb_set2, tb_bc0, tb_bc1, tb_bc2, tb_bc3, tb_bc4, tb_bc5, tb_bc6, tb_bc7, tb_bc8, tb_bc9, tb_bc10, tb_bc11, tb_bc12, tb_bc13, tb_bc14, tb_bc15, tb_bc16, tb_bc17, tb_bc18, tb_lf0, tb_lf1, tb_lf2, tb_lf3, tb_lf4, tb_lf5, tb_lf6, tb_bm0, tb_bm1, tb_bm2, tb_bm3, tb_bm4, tb_it0, tb_it1, tb_it2, tb_it3, tb_it4, tb_spc0, tb_spc1, tb_spc2, lb_bops, lb_augs, lb_cops, lb_ixs, lb_sets, lb_bcs, lb_lfs, lb_bms, lb_its, lb_spcs, lb_cst0, lb_cst1, lb_cst2, lb_cst3, lb_cst4, lb_cst5, lb_cst6, lb_clsA0, lb_clsI0]
    refine ix_t (i := 1) rfl (call_pu (sp_size_of 64 n xs e1 μ (fine_depth h1.2) (by omega) h1) (ix_t (i := 2) rfl (call_pu (sp_size_of 64 n ys e2 μ (fine_depth h2.2) (by omega) h2) ?_)))
    simp only [add_ii]
    exact q
  · have := hv.len
    rw [List.length_nil]
    exact le_line (by omega)
  · rw [List.nil_append]
    exact ⟨(axs.filter isIs).map axSz, by rw [List.map_map]; rfl, Dn.of hq⟩
def termsW (k r : Int) (axs : List W) : W := .tup [.str "terms", .int k, .int r, .tup axs]
def intW : W → Int
  | .int i => i
  | _ => 0
theorem sk_var : PyData.strOk "var" = true := by decide +kernel
inductive Tm where
  | any | none | kind (k : Int) | some (r : Int) (t : Tm) | both (a b : Tm) | var (v : Int)
def toW : Tm → W
  | .any => .tup [.str "any"]
  | .none => .tup [.str "none"]
  | .kind k => .tup [.str "kind", .int k]
  | .some r t => .tup [.str "some", .int r, toW t]
  | .both a b => .tup [.str "both", toW a, toW b]
  | .var v => .tup [.str "var", .int v]
def tsz : Tm → Nat
  | .some _ t => tsz t + 1
  | .both a b => tsz a + tsz b + 1
  | _ => 1
def tdp : Tm → Nat
  | .some _ t => tdp t + 1
  | .both a b => max (tdp a) (tdp b) + 1
  | _ => 1
theorem isTup_toW : ∀ t : Tm, isTup (toW t) = true
  | .any => rfl
  | .none => rfl
  | .kind _ => rfl
  | .var _ => rfl
  | .some _ _ => rfl
  | .both _ _ => rfl
def datT : Tm → PyData
  | .any => .tuple [.str "any"]
  | .none => .tuple [.str "none"]
  | .kind k => .tuple [.str "kind", .int k]
  | .some r t => .tuple [.str "some", .int r, datT t]
  | .both a b => .tuple [.str "both", datT a, datT b]
  | .var v => .tuple [.str "var", .int v]
theorem dat_toW {μ : Mem} : ∀ t : Tm, Dat μ (toW t) (datT t)
  | .any => .tup (.cons (.str _) .nil)
  | .none => .tup (.cons (.str _) .nil)
  | .kind k => .tup (.cons (.str _) (.cons (.int _) .nil))
  | .var k => .tup (.cons (.str _) (.cons (.int _) .nil))
  | .some r t => .tup (.cons (.str _) (.cons (.int _) (.cons (dat_toW t) .nil)))
  | .both a b => .tup (.cons (.str _) (.cons (dat_toW a) (.cons (dat_toW b) .nil)))
theorem lay_T : ∀ t : Tm, (datT t).canLay0 = true
  | .any => by show (PyData.strOk "any" && true) = true; rw [sk_any]; rfl
  | .none => by show (PyData.strOk "none" && true) = true; rw [sk_none]; rfl
  | .kind k => by show (PyData.strOk "kind" && (true && true)) = true; rw [sk_kind]; rfl
  | .var k => by show (PyData.strOk "var" && (true && true)) = true; rw [sk_var]; rfl
  | .some r t => by show (PyData.strOk "some" && (true && ((datT t).canLay0 && true))) = true; rw [sk_some, lay_T t]; rfl
  | .both a b => by show (PyData.strOk "both" && ((datT a).canLay0 && ((datT b).canLay0 && true))) = true; rw [sk_both, lay_T a, lay_T b]; rfl
theorem dep_T : ∀ t : Tm, (datT t).depth ≤ tdp t
  | .any => Nat.le_refl _
  | .none => Nat.le_refl _
  | .kind k => Nat.le_refl _
  | .var k => Nat.le_refl _
  | .some r t => by
    have := dep_T t
    show max 0 (max 0 (max (datT t).depth 0)) + 1 ≤ tdp t + 1
    omega
  | .both a b => by
    have := dep_T a
    have := dep_T b
    show max 0 (max (datT a).depth (max (datT b).depth 0)) + 1 ≤ max (tdp a) (tdp b) + 1
    omega
theorem cnt_T : ∀ t : Tm, cnt (datT t) ≤ 3 * tsz t
  | .any => by show 1 + 0 + 1 ≤ 3 * 1; omega
  | .none => by show 1 + 0 + 1 ≤ 3 * 1; omega
  | .kind k => by show 1 + (1 + 0) + 1 ≤ 3 * 1; omega
  | .var k => by show 1 + (1 + 0) + 1 ≤ 3 * 1; omega
  | .some r t => by
    have := cnt_T t
    show 1 + (1 + (cnt (datT t) + 0)) + 1 ≤ 3 * (tsz t + 1)
    omega
  | .both a b => by
    have := cnt_T a
    have := cnt_T b
    show 1 + (cnt (datT a) + (cnt (datT b) + 0)) + 1 ≤ 3 * (tsz a + tsz b + 1)
    omega
theorem ok_T {μ : Mem} {t : Tm} (h1 : tsz t ≤ 300000) (h2 : tdp t ≤ 64) : OkV μ (toW t) (datT t) := by
  refine ⟨dat_toW t, ?_⟩
  have a1 := dep_T t
  have a2 := cnt_T t
  unfold fine SeqAt.shaped
  rw [lay_T t, decide_eq_true (by omega : (datT t).depth ≤ 64), decide_eq_true (by omega : cnt (datT t) ≤ 1000000)]
  rfl
theorem sk_eq {a b : Str} (h : (a == b) = false) : ¬ decide (a = b) = true := by
  rw [decide_eq_true_eq]
  exact fun e => by rw [e, beq_self_eq_true] at h; cases h
theorem mod_bd {i j : Int} (h : 0 < j) : 0 ≤ i.fmod j ∧ i.fmod j < j := ⟨Int.fmod_nonneg_of_pos i h, Int.fmod_lt_of_pos i h⟩
theorem o_modp {i j : Int} {μ : Mem} {Q : MQ} (h : 0 < j) (q : Q (.int (i.fmod j)) μ) : oMod (.int i) (.int j) μ Q := ⟨by omega, q⟩
theorem o_mul_r {i j : Int} {μ : Mem} {Q : MQ} (h1 : -(2 ^ 64) < j) (h2 : j < 2 ^ 64) (q : Q (.int (i * j)) μ) : oMul (.int i) (.int j) μ Q := ⟨.inl (.inr ⟨h1, h2⟩), q⟩
theorem o_divp {i j : Int} {μ : Mem} {Q : MQ} (h : 0 < j) (h2 : j < 1073741824) (q : Q (.int (i.fdiv j)) μ) : oFdiv (.int i) (.int j) μ Q := ⟨⟨by omega, by omega⟩, q⟩
theorem s_set {a : Addr} {xs : List W} {i : Nat} {v : W} {μ : Mem} {Q : Mem → Prop} (ha : μ a = some (.lst xs)) (hi : i < xs.length) (q : Q (updM μ a (.lst (xs.set i v)))) : sLst (.ref a) (.int i) v μ Q := ⟨xs, i, ha, by
  unfold ixN
  rw [if_pos (Int.natCast_nonneg i), if_pos (by omega)]
  rfl, q⟩
theorem sk_eqi {a b : Int} (h : a ≠ b) : ¬ decide (a = b) = true := by rw [decide_eq_true_eq]; exact h
mutual
def plainD : PyData → Bool
  | .none => true
  | .bool _ => true
  | .int _ => true
  | .str _ => true
  | .tuple xs => plainL xs
  | _ => false
def plainL : List PyData → Bool
  | [] => true
  | x :: xs => plainD x && plainL xs
end
theorem plain_mem : ∀ {ds : List PyData} {d : PyData}, plainL ds = true → d ∈ ds → plainD d = true
  | e :: ds, d, h, hd => by
    rw [plainL, Bool.and_eq_true] at h
    rcases List.mem_cons.mp hd with q | q
    · subst q; exact h.1
    · exact plain_mem h.2 q
theorem anyTy_tup : anyTy "tuple" ["tuple", "list"] = some true := by decide +kernel
theorem dats_bl {μ : Mem} : ∀ n : Nat, Dats μ (List.replicate n (W.bl true)) (List.replicate n (PyData.bool true))
  | 0 => .nil
  | n + 1 => .cons (.bl true) (dats_bl n)
theorem any_bl : ∀ n : Nat, (List.replicate n (PyData.bool true)).any (fun z => PyData.eqv z (.bool false)) = false
  | 0 => rfl
  | n + 1 => by
    rw [List.replicate_succ, List.any_cons, any_bl n]
    rfl
theorem lay_bl : ∀ n : Nat, PyData.canLayAll0 (List.replicate n (PyData.bool true)) = true ∧ PyData.depthAll (List.replicate n (PyData.bool true)) = 0
  | 0 => ⟨rfl, rfl⟩
  | n + 1 => by
    obtain ⟨h1, h2⟩ := lay_bl n
    rw [List.replicate_succ]
    refine ⟨?_, ?_⟩
    · unfold PyData.canLayAll0
      rw [h1]; rfl
    · unfold PyData.depthAll
      rw [h2]; rfl
theorem is_nn {x : W} {μ : Mem} {Q : MQ} (h : x ≠ .non) (q : Q (.bl false) μ) : oIs false x .non μ Q := by
  cases x <;> first
    | exact absurd rfl h
    | exact q
theorem is_non {μ : Mem} {Q : MQ} (q : Q (.bl true) μ) : oIs false .non .non μ Q := q
theorem eqs_b (b : Bool) : PyData.eqv (.bool b) (.bool b) = true := by cases b <;> rfl
theorem eqs_i (b : Int) : PyData.eqv (.int b) (.int b) = true := by simp [PyData.eqv]
theorem eqs_s (b : Str) : PyData.eqv (.str b) (.str b) = true := by simp [PyData.eqv]
theorem rng_mem {n : Nat} {w : W} (h : w ∈ rangeW 0 n) : ∃ j : Nat, j < n ∧ w = .int (j : Int) := by
  unfold rangeW at h
  obtain ⟨j, hj, e⟩ := List.mem_map.mp h
  exact ⟨j, List.mem_range.mp hj, by rw [← e, Int.zero_add]⟩
theorem rng_len (lo : Int) (n : Nat) : (rangeW lo n).length = n := by simp [rangeW]
theorem o_nebb {a : Bool} {μ : Mem} {Q : MQ} (q : Q (.bl false) μ) : oNe (.bl a) (.bl a) μ Q := ne_d (.bl a) (.bl a) rfl rfl (by
  have e : (!PyData.eqv (.bool a) (.bool a)) = false := by cases a <;> rfl
  rw [e]; exact q)
mutual
theorem dat_uniq {μ : Mem} : ∀ {w : W} {d e : PyData}, Dat μ w d → Dat μ w e → d = e
  | _, _, _, .non, .non => rfl
  | _, _, _, .bl _, .bl _ => rfl
  | _, _, _, .int _, .int _ => rfl
  | _, _, _, .str _, .str _ => rfl
  | _, _, _, .tup h, .tup k => by rw [dats_uniq h k]
  | _, _, _, .lst e h, .lst e' k => by rw [e] at e'; cases e'; rw [dats_uniq h k]
  | _, _, _, .lst e h, .rol e' k => by rw [e] at e'; cases e'
  | _, _, _, .rol e h, .lst e' k => by rw [e] at e'; cases e'
  | _, _, _, .rol e h, .rol e' k => by rw [e] at e'; cases e'; rw [dats_uniq h k]
theorem dats_uniq {μ : Mem} : ∀ {w : List W} {d e : List PyData}, Dats μ w d → Dats μ w e → d = e
  | _, _, _, .nil, .nil => rfl
  | _, _, _, .cons h t, .cons h' t' => by rw [dat_uniq h h', dats_uniq t t']
end
def wfT (k r : Int) : Tm → Prop
  | .kind j => 0 ≤ j ∧ j < k
  | .some j t => 0 ≤ j ∧ j < r ∧ wfT k r t
  | .both a b => wfT k r a ∧ wfT k r b
  | .var _ => False
  | _ => True
theorem szW_T : ∀ t : Tm, szW (toW t) = tsz t
  | .any => rfl
  | .none => rfl
  | .kind _ => rfl
  | .var _ => rfl
  | .some r t => by
    show 1 + (0 + ((if isTup (toW t) = true then szW (toW t) else 0) + 0)) = ((tsz t + 1 : Nat) : Int)
    rw [isTup_toW, if_pos rfl, szW_T t]
    omega
  | .both a b => by
    show 1 + ((if isTup (toW a) = true then szW (toW a) else 0) + ((if isTup (toW b) = true then szW (toW b) else 0) + 0)) = ((tsz a + tsz b + 1 : Nat) : Int)
    rw [isTup_toW, isTup_toW, if_pos rfl, if_pos rfl, szW_T a, szW_T b]
    omega
theorem toW_tup (t : Tm) : ∃ ws, toW t = .tup ws := by cases t <;> exact ⟨_, rfl⟩
theorem o_eqss {i j : Str} {μ : Mem} {Q : MQ} {b : Bool} (h1 : PyData.strOk i = true) (h2 : PyData.strOk j = true) (e : decide (i = j) = b) (q : Q (.bl b) μ) : oEq (.str i) (.str j) μ Q := o_eqs h1 h2 (by rw [e]; exact q)
theorem tsz_pos : ∀ t : Tm, 1 ≤ tsz t
  | .any => Nat.le_refl _
  | .none => Nat.le_refl _
  | .kind _ => Nat.le_refl _
  | .var _ => Nat.le_refl _
  | .some _ t => by show 1 ≤ tsz t + 1; omega
  | .both a b => by show 1 ≤ tsz a + tsz b + 1; omega
theorem tdp_pos : ∀ t : Tm, 1 ≤ tdp t
  | .any => Nat.le_refl _
  | .none => Nat.le_refl _
  | .kind _ => Nat.le_refl _
  | .var _ => Nat.le_refl _
  | .some _ t => by show 1 ≤ tdp t + 1; omega
  | .both a b => by show 1 ≤ max (tdp a) (tdp b) + 1; omega
inductive Axm where
  | is (a b : Tm) | within (i j : Int) | chain (i j l : Int)
def axW : Axm → W
  | .is a b => .tup [.str "is", toW a, toW b]
  | .within i j => .tup [.str "within", .int i, .int j]
  | .chain i j l => .tup [.str "chain", .int i, .int j, .int l]
def datA : Axm → PyData
  | .is a b => .tuple [.str "is", datT a, datT b]
  | .within i j => .tuple [.str "within", .int i, .int j]
  | .chain i j l => .tuple [.str "chain", .int i, .int j, .int l]
def keyT : Tm → NestedKey
  | .any => .tup [.text "any"]
  | .none => .tup [.text "none"]
  | .kind k => .tup [.text "kind", .num k]
  | .some r t => .tup [.text "some", .num r, keyT t]
  | .both a b => .tup [.text "both", keyT a, keyT b]
  | .var v => .tup [.text "var", .num v]
def keyA : Axm → NestedKey
  | .is a b => .tup [.text "is", keyT a, keyT b]
  | .within i j => .tup [.text "within", .num i, .num j]
  | .chain i j l => .tup [.text "chain", .num i, .num j, .num l]
theorem key_T : ∀ t : Tm, KeyW (toW t) (keyT t)
  | .any => .tup (.cons (.str _) .nil)
  | .none => .tup (.cons (.str _) .nil)
  | .kind _ => .tup (.cons (.str _) (.cons (.int _) .nil))
  | .var _ => .tup (.cons (.str _) (.cons (.int _) .nil))
  | .some _ t => .tup (.cons (.str _) (.cons (.int _) (.cons (key_T t) .nil)))
  | .both a b => .tup (.cons (.str _) (.cons (key_T a) (.cons (key_T b) .nil)))
theorem key_A : ∀ x : Axm, KeyW (axW x) (keyA x)
  | .is a b => .tup (.cons (.str _) (.cons (key_T a) (.cons (key_T b) .nil)))
  | .within _ _ => .tup (.cons (.str _) (.cons (.int _) (.cons (.int _) .nil)))
  | .chain _ _ _ => .tup (.cons (.str _) (.cons (.int _) (.cons (.int _) (.cons (.int _) .nil))))
theorem kdep_T : ∀ t : Tm, (keyT t).depth ≤ tdp t
  | .any => Nat.le_refl _
  | .none => Nat.le_refl _
  | .kind _ => Nat.le_refl _
  | .var _ => Nat.le_refl _
  | .some _ t => by
    have := kdep_T t
    show max 0 (max 0 (max (keyT t).depth 0)) + 1 ≤ tdp t + 1
    omega
  | .both a b => by
    have := kdep_T a
    have := kdep_T b
    show max 0 (max (keyT a).depth (max (keyT b).depth 0)) + 1 ≤ max (tdp a) (tdp b) + 1
    omega
theorem kdata_T : ∀ t : Tm, (keyT t).data = datT t
  | .any => rfl
  | .none => rfl
  | .kind _ => rfl
  | .var _ => rfl
  | .some r t => by
    have := kdata_T t
    show PyData.tuple [.str "some", .int r, (keyT t).data] = _
    rw [this]; rfl
  | .both a b => by
    have h1 := kdata_T a
    have h2 := kdata_T b
    show PyData.tuple [.str "both", (keyT a).data, (keyT b).data] = _
    rw [h1, h2]; rfl
theorem kdata_A : ∀ x : Axm, (keyA x).data = datA x
  | .is a b => by
    show PyData.tuple [.str "is", (keyT a).data, (keyT b).data] = _
    rw [kdata_T, kdata_T]; rfl
  | .within _ _ => rfl
  | .chain _ _ _ => rfl
mutual
theorem eqv_refl : ∀ d : PyData, plainD d = true → PyData.eqv d d = true
  | .none, _ => rfl
  | .bool b, _ => eqs_b b
  | .int i, _ => eqs_i i
  | .str x, _ => eqs_s x
  | .tuple xs, h => by
    rw [plainD] at h
    show PyData.eqvAll xs xs = true
    exact eqvAll_refl xs h
  | .list _, h => by cases h
  | .dict _, h => by cases h
theorem eqvAll_refl : ∀ ds : List PyData, plainL ds = true → PyData.eqvAll ds ds = true
  | [], _ => rfl
  | d :: ds, h => by
    rw [plainL, Bool.and_eq_true] at h
    show (PyData.eqv d d && PyData.eqvAll ds ds) = true
    rw [eqv_refl d h.1, eqvAll_refl ds h.2]
    rfl
end
theorem plain_T : ∀ t : Tm, plainD (datT t) = true
  | .any => rfl
  | .none => rfl
  | .kind _ => rfl
  | .var _ => rfl
  | .some r t => by
    show (true && (true && (plainD (datT t) && true))) = true
    rw [plain_T t]; rfl
  | .both a b => by
    show (true && (plainD (datT a) && (plainD (datT b) && true))) = true
    rw [plain_T a, plain_T b]; rfl
theorem plain_A : ∀ x : Axm, plainD (datA x) = true
  | .is a b => by
    show (true && (plainD (datT a) && (plainD (datT b) && true))) = true
    rw [plain_T a, plain_T b]; rfl
  | .within _ _ => rfl
  | .chain _ _ _ => rfl
theorem dat_A {μ : Mem} : ∀ x : Axm, Dat μ (axW x) (datA x)
  | .is a b => .tup (.cons (.str _) (.cons (dat_toW a) (.cons (dat_toW b) .nil)))
  | .within _ _ => .tup (.cons (.str _) (.cons (.int _) (.cons (.int _) .nil)))
  | .chain _ _ _ => .tup (.cons (.str _) (.cons (.int _) (.cons (.int _) (.cons (.int _) .nil))))
/-- an axiom at its bounds -/
def wfA (k r : Int) : Axm → Prop
  | .is a b => wfT k r a ∧ wfT k r b ∧ tsz a ≤ 7 ∧ tsz b ≤ 7 ∧ tdp a ≤ 4 ∧ tdp b ≤ 4
  | .within i j => 0 ≤ i ∧ i < r ∧ 0 ≤ j ∧ j < r
  | .chain i j l => 0 ≤ i ∧ i < r ∧ 0 ≤ j ∧ j < r ∧ 0 ≤ l ∧ l < r
theorem lay_A : ∀ x : Axm, (datA x).canLay0 = true
  | .is a b => by
    show (PyData.strOk "is" && ((datT a).canLay0 && ((datT b).canLay0 && true))) = true
    rw [sk_is, lay_T a, lay_T b]; rfl
  | .within _ _ => by
    show (PyData.strOk "within" && (true && (true && true))) = true
    rw [sk_within]; rfl
  | .chain _ _ _ => by
    show (PyData.strOk "chain" && (true && (true && (true && true)))) = true
    rw [sk_chain]; rfl
theorem dep_A {k r : Int} : ∀ x : Axm, wfA k r x → (datA x).depth ≤ 5 ∧ (keyA x).depth ≤ 5 ∧ cnt (datA x) ≤ 60
  | .is a b, h => by
    obtain ⟨_, _, s1, s2, d1, d2⟩ := h
    have a1 := dep_T a
    have a2 := dep_T b
    have b1 := kdep_T a
    have b2 := kdep_T b
    have c1 := cnt_T a
    have c2 := cnt_T b
    refine ⟨?_, ?_, ?_⟩
    · show max 0 (max (datT a).depth (max (datT b).depth 0)) + 1 ≤ 5
      omega
    · show max 0 (max (keyT a).depth (max (keyT b).depth 0)) + 1 ≤ 5
      omega
    · show 1 + (cnt (datT a) + (cnt (datT b) + 0)) + 1 ≤ 60
      omega
  | .within _ _, _ => ⟨by show 0 + 1 ≤ 5; omega, by show 0 + 1 ≤ 5; omega, by show 1 + (1 + (1 + 0)) + 1 ≤ 60; omega⟩
  | .chain _ _ _, _ => ⟨by show 0 + 1 ≤ 5; omega, by show 0 + 1 ≤ 5; omega, by show 1 + (1 + (1 + (1 + 0))) + 1 ≤ 60; omega⟩
theorem dats_A {μ : Mem} : ∀ xs : List Axm, Dats μ (xs.map axW) (xs.map datA)
  | [] => .nil
  | x :: r => .cons (dat_A x) (dats_A r)
theorem lay_AL {k r : Int} : ∀ xs : List Axm, (∀ x ∈ xs, wfA k r x) → PyData.canLayAll0 (xs.map datA) = true ∧ PyData.depthAll (xs.map datA) ≤ 5
  | [], _ => ⟨rfl, Nat.zero_le _⟩
  | x :: rs, h => by
    obtain ⟨h1, h2⟩ := lay_AL rs fun y hy => h y (List.mem_cons_of_mem _ hy)
    have h3 := (dep_A x (h x List.mem_cons_self)).1
    rw [List.map_cons]
    refine ⟨?_, ?_⟩
    · unfold PyData.canLayAll0
      rw [lay_A, h1]; rfl
    · unfold PyData.depthAll
      omega
theorem sh_A {k r : Int} {x : Axm} (h : wfA k r x) : SeqAt.shaped (datA x) = true := by
  have h3 := (dep_A x h).1
  unfold SeqAt.shaped
  rw [lay_A, decide_eq_true (by omega : (datA x).depth ≤ 64)]
  rfl
theorem isInt_in {i lo hi : Int} (h1 : lo ≤ i) (h2 : i ≤ hi) : isInt (.int i) lo hi = true := by
  show (decide (lo ≤ i) && decide (i ≤ hi)) = true
  rw [decide_eq_true h1, decide_eq_true h2]; rfl
theorem good_succ {k r : Int} {l : Nat} {v : W} {m : Int} {s : Str} {N : Int} (hs : fst v = s) (hn : fnum v = N) : good k r (l + 1) v m = if 60 < m + 1 then (false, m + 1) else
    if (decide (s = "any") && decide (N = 1)) || (decide (s = "none") && decide (N = 1)) then (true, m + 1) else
    if decide (s = "kind") && decide (N = 2) then (isInt (nthW v 1) 0 (k - 1), m + 1) else
    if decide (s = "some") && decide (N = 3) then (if isInt (nthW v 1) 0 (r - 1) then good k r l (nthW v 2) (m + 1) else (false, m + 1)) else
    if decide (s = "both") && decide (N = 3) then (if (good k r l (nthW v 1) (m + 1)).1 then good k r l (nthW v 2) (good k r l (nthW v 1) (m + 1)).2 else (false, (good k r l (nthW v 1) (m + 1)).2)) else (false, m + 1) := by
  subst hs hn
  rfl
theorem good_any {k r : Int} {l : Nat} {m : Int} (h : m + 1 ≤ 60) : good k r (l + 1) (.tup [.str "any"]) m = (true, m + 1) := by
  rw [good_succ (s := "any") (N := 1) rfl rfl, if_neg (by omega), if_pos (by decide +kernel)]
theorem good_none {k r : Int} {l : Nat} {m : Int} (h : m + 1 ≤ 60) : good k r (l + 1) (.tup [.str "none"]) m = (true, m + 1) := by
  rw [good_succ (s := "none") (N := 1) rfl rfl, if_neg (by omega), if_pos (by decide +kernel)]
theorem good_kind {k r : Int} {l : Nat} {m : Int} {j : W} (h : m + 1 ≤ 60) : good k r (l + 1) (.tup [.str "kind", j]) m = (isInt j 0 (k - 1), m + 1) := by
  rw [good_succ (s := "kind") (N := 2) rfl rfl, if_neg (by omega), if_neg (by decide +kernel), if_pos (by decide +kernel)]
  rfl
theorem good_some {k r : Int} {l : Nat} {m : Int} {j w : W} (h : m + 1 ≤ 60) : good k r (l + 1) (.tup [.str "some", j, w]) m = if isInt j 0 (r - 1) then good k r l w (m + 1) else (false, m + 1) := by
  rw [good_succ (s := "some") (N := 3) rfl rfl, if_neg (by omega), if_neg (by decide +kernel), if_neg (by decide +kernel), if_pos (by decide +kernel)]
  rfl
theorem good_both {k r : Int} {l : Nat} {m : Int} {a b : W} (h : m + 1 ≤ 60) : good k r (l + 1) (.tup [.str "both", a, b]) m = if (good k r l a (m + 1)).1 then good k r l b (good k r l a (m + 1)).2 else (false, (good k r l a (m + 1)).2) := by
  rw [good_succ (s := "both") (N := 3) rfl rfl, if_neg (by omega), if_neg (by decide +kernel), if_neg (by decide +kernel), if_neg (by decide +kernel), if_pos (by decide +kernel)]
  rfl
theorem good_yes {k r : Int} : ∀ (t : Tm) (l : Nat) (m : Int), wfT k r t → tdp t ≤ l → m + tsz t ≤ 60 → good k r l (toW t) m = (true, m + tsz t)
  | t, 0, m, _, hd, _ => by have := tdp_pos t; omega
  | .any, l + 1, m, _, _, hs => good_any hs
  | .none, l + 1, m, _, _, hs => good_none hs
  | .kind j, l + 1, m, h, _, hs => by
    show good k r (l + 1) (.tup [.str "kind", .int j]) m = _
    rw [good_kind hs, isInt_in h.1 (by have := h.2; omega)]
    rfl
  | .var _, _ + 1, _, h, _, _ => h.elim
  | .some j t, l + 1, m, h, hd, hs => by
    simp only [tdp, tsz] at hd hs
    have := tsz_pos t
    show good k r (l + 1) (.tup [.str "some", .int j, toW t]) m = _
    rw [good_some (by omega), isInt_in h.1 (by have := h.2.1; omega), if_pos rfl, good_yes t l (m + 1) h.2.2 (by omega) (by omega)]
    simp only [tsz]
    congr 1
    omega
  | .both a b, l + 1, m, h, hd, hs => by
    simp only [tdp, tsz] at hd hs
    have := tsz_pos a
    have := tsz_pos b
    show good k r (l + 1) (.tup [.str "both", toW a, toW b]) m = _
    rw [good_both (by omega), good_yes a l (m + 1) h.1 (by omega) (by omega)]
    simp only [if_true]
    rw [good_yes b l _ h.2 (by omega) (by omega)]
    simp only [tsz]
    congr 1
    omega
theorem good_over {k r : Int} {l : Nat} {v : W} {m : Int} (h : 60 < m + 1) : (good k r l v m).1 = false := by
  cases l with
  | zero => rfl
  | succ l =>
    unfold good
    rw [if_pos h]
theorem good_no {k r : Int} : ∀ (t : Tm) (l : Nat) (m : Int), wfT k r t → ¬ (tdp t ≤ l ∧ m + tsz t ≤ 60) → (good k r l (toW t) m).1 = false
  | t, 0, m, _, _ => rfl
  | .any, l + 1, m, _, hn => good_over (by simp only [tdp, tsz] at hn; omega)
  | .none, l + 1, m, _, hn => good_over (by simp only [tdp, tsz] at hn; omega)
  | .kind j, l + 1, m, h, hn => good_over (by simp only [tdp, tsz] at hn; omega)
  | .var _, _ + 1, _, h, _ => h.elim
  | .some j t, l + 1, m, h, hn => by
    simp only [tdp, tsz] at hn
    by_cases h1 : m + 1 ≤ 60
    · show (good k r (l + 1) (.tup [.str "some", .int j, toW t]) m).1 = _
      rw [good_some h1, isInt_in h.1 (by have := h.2.1; omega), if_pos rfl]
      exact good_no t l (m + 1) h.2.2 (by omega)
    · exact good_over (by omega)
  | .both a b, l + 1, m, h, hn => by
    simp only [tdp, tsz] at hn
    by_cases h1 : m + 1 ≤ 60
    · show (good k r (l + 1) (.tup [.str "both", toW a, toW b]) m).1 = _
      rw [good_both h1]
      by_cases h2 : tdp a ≤ l ∧ (m + 1) + tsz a ≤ 60
      · rw [good_yes a l (m + 1) h.1 h2.1 h2.2]
        simp only [if_true]
        exact good_no b l _ h.2 (by omega)
      · rw [good_no a l (m + 1) h.1 h2]
        rfl
    · exact good_over (by omega)
theorem fine_of {d : PyData} (h1 : d.canLay0 = true) (h2 : d.depth ≤ 64) (h3 : cnt d ≤ 1000000) : fine d = true := by
  unfold fine SeqAt.shaped
  rw [h1, decide_eq_true h2, decide_eq_true h3]
  rfl
theorem good_T1 {k r : Int} {t : Tm} (h : wfT k r t) (hs : tsz t ≤ 60) (hd : tdp t ≤ 20) : (good k r 20 (toW t) 0).1 = true := by
  rw [good_yes t 20 0 h hd (by omega)]
theorem isAx_eq {k r : Int} {v : W} {s : Str} {N : Int} (hs : fst v = s) (hn : fnum v = N) : isAx k r v = if decide (s = "is") && decide (N = 3) then (good k r 20 (nthW v 1) 0).1 && (good k r 20 (nthW v 2) 0).1 else
    if (decide (s = "within") && decide (N = 3)) || (decide (s = "chain") && decide (N = 4)) then (tailW v).all fun w => isInt w 0 (r - 1) else false := by
  subst hs hn
  rfl
theorem isAx_A {k r : Int} : ∀ x : Axm, wfA k r x → isAx k r (axW x) = true
  | .is a b, h => by
    obtain ⟨w1, w2, s1, s2, d1, d2⟩ := h
    rw [isAx_eq (s := "is") (N := 3) rfl rfl, if_pos (by decide +kernel)]
    show ((good k r 20 (toW a) 0).1 && (good k r 20 (toW b) 0).1) = true
    rw [good_T1 w1 (by omega) (by omega), good_T1 w2 (by omega) (by omega)]
    rfl
  | .within i j, h => by
    obtain ⟨i0, i1, j0, j1⟩ := h
    rw [isAx_eq (s := "within") (N := 3) rfl rfl, if_neg (by decide +kernel), if_pos (by decide +kernel)]
    show (isInt (.int i) 0 (r - 1) && (isInt (.int j) 0 (r - 1) && true)) = true
    rw [isInt_in i0 (by omega), isInt_in j0 (by omega)]
    rfl
  | .chain i j l, h => by
    obtain ⟨i0, i1, j0, j1, l0, l1⟩ := h
    rw [isAx_eq (s := "chain") (N := 4) rfl rfl, if_neg (by decide +kernel), if_pos (by decide +kernel)]
    show (isInt (.int i) 0 (r - 1) && (isInt (.int j) 0 (r - 1) && (isInt (.int l) 0 (r - 1) && true))) = true
    rw [isInt_in i0 (by omega), isInt_in j0 (by omega), isInt_in l0 (by omega)]
    rfl
theorem fit_A : ∀ x : Axm, IsFit (axW x)
  | .is a b => by
    obtain ⟨xs, e1⟩ := toW_tup a
    obtain ⟨ys, e2⟩ := toW_tup b
    exact ⟨"is", [toW a, toW b], rfl, fun _ => ⟨xs, ys, by rw [e1, e2]⟩⟩
  | .within i j => ⟨"within", _, rfl, fun e => absurd e (by decide +kernel)⟩
  | .chain i j l => ⟨"chain", _, rfl, fun e => absurd e (by decide +kernel)⟩
theorem keys_A : ∀ xs : List Axm, KeysW (xs.map axW) (xs.map keyA)
  | [] => .nil
  | x :: r => .cons (key_A x) (keys_A r)
theorem cnt_AL {k r : Int} : ∀ xs : List Axm, (∀ x ∈ xs, wfA k r x) → cntL (xs.map datA) ≤ 60 * xs.length
  | [], _ => Nat.le_refl _
  | x :: rs, h => by
    have h1 := cnt_AL rs fun y hy => h y (List.mem_cons_of_mem _ hy)
    have h3 := (dep_A x (h x List.mem_cons_self)).2.2
    rw [List.map_cons, List.length_cons]
    unfold cntL
    omega
theorem axSz_A {k r : Int} : ∀ x : Axm, wfA k r x → isIs (axW x) = true → axSz (axW x) ≤ 14
  | .is a b, h, _ => by
    obtain ⟨_, _, s1, s2, _, _⟩ := h
    show szW (toW a) + szW (toW b) ≤ 14
    rw [szW_T, szW_T]
    omega
  | .within _ _, _, e => absurd e (by unfold isIs; rw [decide_eq_true_eq]; show ¬ (("within" : Str) = "is"); decide +kernel)
  | .chain _ _ _, _, e => absurd e (by unfold isIs; rw [decide_eq_true_eq]; show ¬ (("chain" : Str) = "is"); decide +kernel)
theorem sum_bd {α : Type} {f : α → Int} {b : Int} (hb : 0 ≤ b) : ∀ l : List α, (∀ x ∈ l, f x ≤ b) → (l.map f).sum ≤ b * l.length
  | [], _ => by simp
  | x :: r, h => by
    have h1 := sum_bd hb r fun y hy => h y (List.mem_cons_of_mem _ hy)
    have h2 := h x List.mem_cons_self
    rw [List.map_cons, List.sum_cons, List.length_cons]
    have e : b * ((r.length + 1 : Nat) : Int) = b * (r.length : Int) + b := by
      rw [Int.natCast_add, Int.mul_add]
      simp
    omega
end K01
set_option Elab.async false
set_option autoImplicit false
set_option linter.all false
set_option maxRecDepth 100000
namespace K01
open PySem PySem.Spec PyProof.Rows L2 MP
theorem sp_is_axiom {c : List Addr} {n : Nat} {pb : Addr} {L : Nat} {k r : Int} {v : W} {μ : Mem} (hn : 25 ≤ n) (hL : L ≤ 1000) (hv : Vl pb μ L v) : Pu (Gm c n j_is_axiom) [v, .int k, .int r] μ (.bl (isAx k r v)) := fun Q E hq => by
  obtain ⟨n, rfl⟩ : ∃ j, n = j + 1 + 1 := ⟨n - 2, by omega⟩
  refine ⟨rfl, ?_⟩
  show dSs _ _ t_is_axiom [some v, some (.int k), some (.int r), none, none] μ _ _
  simp only [t_is_axiom, dSs, dS, dE, dA, dT, dAnds, dOrs, dTAnds, dTOrs, dIfs, dO, dG, dGs, dI, lenGs, sSeq, sIf, sRet, sRetN, sAsg, sDrop, sNext, sPar, sPar3, sBreak, sCont, eVar, eC, eOp, eUn, eChain, eAnd, eOr, eNot, eIte, aNil, aCons, eTup, eLst, eCall, eCB, tVal, tAndM, tOrM, tNotM, eSl, pSome, pNone, eDk0, eDt0, eDkc, gNm, gTp, gNl, gCn, wipeM, List.map_cons, List.map_nil, le_ii, lt_ii, gt_ii, ge_ii, add_ii, sub_ii, iadd_ii, neg_i, len_t, int_i, abs_i, List.getElem?_cons_zero, List.getElem?_cons_succ, List.set_cons_zero, List.set_cons_succ, List.length_cons, List.length_nil, Option.some.injEq, W.bl.injEq, W.int.injEq, W.str.injEq, W.tup.injEq, exists_eq_left', exists_eq_left, ↓reduceIte, Bool.not_true, Bool.not_false, Bool.false_eq_true, if_true, if_false, tb_bop0, tb_bop1, tb_bop2, tb_bop3, tb_bop4, tb_bop5, tb_bop6, tb_aug0, tb_aug1, tb_cop0, tb_cop1, tb_cop2, tb_cop3, tb_cop4, tb_cop5, tb_cop6, tb_cop7, tb_cop8, tb_cop9, tb_cop10, tb_cop11, tb_cop12, tb_ix0, tb_ix1, tb_set0, tb_set1, tb_set2, tb_bc0, tb_bc1, tb_bc2, tb_bc3, tb_bc4, tb_bc5, tb_bc6, tb_bc7, tb_bc8, tb_bc9, tb_bc10, tb_bc11, tb_bc12, tb_bc13, tb_bc14, tb_bc15, tb_bc16, tb_bc17, tb_bc18, tb_lf0, tb_lf1, tb_lf2, tb_lf3, tb_lf4, tb_lf5, tb_lf6, tb_bm0, tb_bm1, tb_bm2, tb_bm3, tb_bm4, tb_it0, tb_it1, tb_it2, tb_it3, tb_it4, tb_spc0, tb_spc1, tb_spc2, lb_bops, lb_augs, lb_cops, lb_ixs, lb_sets, lb_bcs, lb_lfs, lb_bms, lb_its, lb_spcs, lb_cst0, lb_cst1, lb_cst2, lb_cst3, lb_cst4, lb_cst5, lb_cst6, lb_clsA0, lb_clsI0, eLcI, iSq, cut1]
  have s0 := vl_fst hv
  refine call_pu (sp_form_of hv) ⟨by decide, o_eqf s0 sk_is ⟨_, rfl, ?_⟩⟩
  by_cases hA : (decide (fst v = "is") && decide (fnum v = 3)) = true
  · have e : isAx k r v = ((good k r 20 (nthW v 1) 0).1 && (good k r 20 (nthW v 2) 0).1) := by unfold isAx; rw [if_pos hA]
    rw [e] at hq
    have hN : fnum v = 3 := by simp at hA; exact hA.2
    obtain ⟨w, ws, rfl, a1, a2, o1⟩ := vl_nth hv 1 (by omega)
    obtain ⟨w2, ws2, e0, b1, b2, o2⟩ := vl_nth hv 2 (by omega)
    cases e0
    rw [a2, b2] at hq
    refine (if_pos hA).mpr (ix_t (i := 1) a1 (call_pu (sp_is_term_over (by omega) o1) ⟨_, rfl, ?_⟩))
    by_cases hG : (good k r 20 w 0).1 = true
    · rw [hG, Bool.true_and] at hq
      exact (if_pos hG).mpr (ix_t (i := 2) b1 (call_pu (sp_is_term_over (by omega) o2) (Dn.of hq)))
    · have hG' : (good k r 20 w 0).1 = false := by simpa using hG
      rw [hG', Bool.false_and] at hq
      exact (if_neg hG).mpr (Dn.of hq)
  · refine (if_neg hA).mpr ⟨by decide, by decide, by decide, o_inf s0 sk_within sk_chain ⟨_, rfl, ?_⟩⟩
    by_cases hB : ((decide (fst v = "within") && decide (fnum v = 3)) || (decide (fst v = "chain") && decide (fnum v = 4))) = true
    · have e : isAx k r v = (tailW v).all fun w => isInt w 0 (r - 1) := by unfold isAx; rw [if_neg hA, if_pos hB]
      rw [e] at hq
      obtain ⟨w, ws, rfl, a1, a2, o1⟩ := vl_nth hv 1 (by simp at hB; omega)
      have et : ws.drop 1 = tailW (.tup ws) := by cases ws <;> rfl
      refine (if_pos hB).mpr ?_
      dsimp only
      rw [et]
      refine loopC_all (fun w => .bl (isInt w 0 (r - 1))) trivial _ _ (fun w hw Q' q => ?_) ?_ ?_
      · rw [← et] at hw
        have he := hv.mem (List.mem_of_mem_drop hw)
        simp only [dSs, dS, dE, dA, dT, dAnds, dOrs, dTAnds, dTOrs, dIfs, dO, dG, dGs, dI, lenGs, sSeq, sIf, sRet, sRetN, sAsg, sDrop, sNext, sPar, sPar3, sBreak, sCont, eVar, eC, eOp, eUn, eChain, eAnd, eOr, eNot, eIte, aNil, aCons, eTup, eLst, eCall, eCB, tVal, tAndM, tOrM, tNotM, eSl, pSome, pNone, eDk0, eDt0, eDkc, gNm, gTp, gNl, gCn, wipeM, List.map_cons, List.map_nil, le_ii, lt_ii, gt_ii, ge_ii, add_ii, sub_ii, iadd_ii, neg_i, len_t, int_i, abs_i, List.getElem?_cons_zero, List.getElem?_cons_succ, List.set_cons_zero, List.set_cons_succ, List.length_cons, List.length_nil, Option.some.injEq, W.bl.injEq, W.int.injEq, W.str.injEq, W.tup.injEq, exists_eq_left', exists_eq_left, ↓reduceIte, Bool.not_true, Bool.not_false, Bool.false_eq_true, if_true, if_false, tb_bop0, tb_bop1, tb_bop2, tb_bop3, tb_bop4, tb_bop5, tb_bop6, tb_aug0, tb_aug1, tb_cop0, tb_cop1, tb_cop2, tb_cop3, tb_cop4, tb_cop5, tb_cop6, tb_cop7, tb_cop8, tb_cop9, tb_cop10, tb_cop11, tb_cop12, tb_ix0, tb_ix1, tb_set0, tb_set1, tb_set2, tb_bc0, tb_bc1, tb_bc2, tb_bc3, tb_bc4, tb_bc5, tb_bc6, tb_bc7, tb_bc8, tb_bc9, tb_bc10, tb_bc11, tb_bc12, tb_bc13, tb_bc14, tb_bc15, tb_bc16, tb_bc17, tb_bc18, tb_lf0, tb_lf1, tb_lf2, tb_lf3, tb_lf4, tb_lf5, tb_lf6, tb_bm0, tb_bm1, tb_bm2, tb_bm3, tb_bm4, tb_it0, tb_it1, tb_it2, tb_it3, tb_it4, tb_spc0, tb_spc1, tb_spc2, lb_bops, lb_augs, lb_cops, lb_ixs, lb_sets, lb_bcs, lb_lfs, lb_bms, lb_its, lb_spcs, lb_cst0, lb_cst1, lb_cst2, lb_cst3, lb_cst4, lb_cst5, lb_cst6, lb_clsA0, lb_clsI0]
        exact call_pu (sp_is_integer he) q
      · have := hv.len
        rw [← et, List.length_nil, List.length_drop]
        exact le_line (by omega)
      · rw [List.nil_append]
        refine ⟨(tailW (.tup ws)).map fun w => isInt w 0 (r - 1), by rw [List.map_map]; rfl, Dn.of ?_⟩
        rw [List.all_map]
        exact hq
    · have e : isAx k r v = false := by unfold isAx; rw [if_neg hA, if_neg hB]
      rw [e] at hq
      exact (if_neg hB).mpr (Dn.of hq)

/-! ### shapes -/
theorem fst_some {v : W} {s : Str} (h : fst v = s) (hs : s ≠ "") : ∃ ws, v = .tup (.str s :: ws) := by
  cases v with
  | tup ws =>
    cases ws with
    | nil => exact absurd h.symm hs
    | cons w ws =>
      cases w with
      | str x => exact ⟨ws, by rw [show x = s from h]⟩
      | _ => exact absurd h.symm hs
  | _ => exact absurd h.symm hs
theorem shape {v : W} {s : Str} {N : Int} (h : (decide (fst v = s) && decide (fnum v = N)) = true) (hs : s ≠ "") : ∃ ws, v = .tup (.str s :: ws) ∧ (ws.length : Int) + 1 = N := by
  rw [Bool.and_eq_true, decide_eq_true_eq, decide_eq_true_eq] at h
  obtain ⟨ws, rfl⟩ := fst_some h.1 hs
  exact ⟨ws, rfl, h.2⟩
theorem isInt_inv {v : W} {lo hi : Int} (h : isInt v lo hi = true) : ∃ i, v = .int i ∧ lo ≤ i ∧ i ≤ hi := by
  cases v with
  | int i =>
    have h' : (decide (lo ≤ i) && decide (i ≤ hi)) = true := h
    rw [Bool.and_eq_true, decide_eq_true_eq, decide_eq_true_eq] at h'
    exact ⟨i, rfl, h'⟩
  | _ => cases h
theorem len0 {α : Type} {l : List α} (h : (l.length : Int) + 1 = 1) : l = [] := List.eq_nil_of_length_eq_zero (by omega)
theorem len1 {α : Type} {l : List α} (h : (l.length : Int) + 1 = 2) : ∃ a, l = [a] := by
  match l, h with
  | [a], _ => exact ⟨a, rfl⟩
  | [], h => simp at h
  | _ :: _ :: _, h => simp only [List.length_cons] at h; omega
theorem len2 {α : Type} {l : List α} (h : (l.length : Int) + 1 = 3) : ∃ a b, l = [a, b] := by
  match l, h with
  | [a, b], _ => exact ⟨a, b, rfl⟩
  | [], h => simp at h
  | [_], h => simp at h
  | _ :: _ :: _ :: _, h => simp only [List.length_cons] at h; omega
theorem len3 {α : Type} {l : List α} (h : (l.length : Int) + 1 = 4) : ∃ a b c, l = [a, b, c] := by
  match l, h with
  | [a, b, c], _ => exact ⟨a, b, c, rfl⟩
  | [], h => simp at h
  | [_], h => simp at h
  | [_, _], h => simp at h
  | _ :: _ :: _ :: _ :: _, h => simp only [List.length_cons] at h; omega
/-- what is good is a term -/
theorem good_inv {k r : Int} : ∀ (l : Nat) (v : W) (m : Int), (good k r l v m).1 = true → ∃ t, v = toW t ∧ wfT k r t ∧ tdp t ≤ l ∧ (good k r l v m).2 = m + tsz t ∧ m + tsz t ≤ 60
  | 0, v, m, h => by cases h
  | l + 1, v, m, h => by
    by_cases h60 : 60 < m + 1
    · have e : good k r (l + 1) v m = (false, m + 1) := by unfold good; rw [if_pos h60]
      rw [e] at h; cases h
    · by_cases hA : ((decide (fst v = "any") && decide (fnum v = 1)) || (decide (fst v = "none") && decide (fnum v = 1))) = true
      · have e : good k r (l + 1) v m = (true, m + 1) := by unfold good; rw [if_neg h60, if_pos hA]
        rw [e]
        rw [Bool.or_eq_true] at hA
        rcases hA with hA | hA
        · obtain ⟨ws, rfl, hl⟩ := shape hA (by decide +kernel)
          rw [len0 hl]
          exact ⟨.any, rfl, trivial, by show 1 ≤ l + 1; omega, rfl, by show m + 1 ≤ 60; omega⟩
        · obtain ⟨ws, rfl, hl⟩ := shape hA (by decide +kernel)
          rw [len0 hl]
          exact ⟨.none, rfl, trivial, by show 1 ≤ l + 1; omega, rfl, by show m + 1 ≤ 60; omega⟩
      · by_cases hB : (decide (fst v = "kind") && decide (fnum v = 2)) = true
        · have e : good k r (l + 1) v m = (isInt (nthW v 1) 0 (k - 1), m + 1) := by unfold good; rw [if_neg h60, if_neg hA, if_pos hB]
          rw [e] at h ⊢
          obtain ⟨ws, rfl, hl⟩ := shape hB (by decide +kernel)
          obtain ⟨a, rfl⟩ := len1 hl
          obtain ⟨i, ei, i0, i1⟩ := isInt_inv h
          have ei' : a = .int i := ei
          subst ei'
          exact ⟨.kind i, rfl, ⟨i0, by omega⟩, by show 1 ≤ l + 1; omega, rfl, by show m + 1 ≤ 60; omega⟩
        · by_cases hC : (decide (fst v = "some") && decide (fnum v = 3)) = true
          · have e : good k r (l + 1) v m = if isInt (nthW v 1) 0 (r - 1) then good k r l (nthW v 2) (m + 1) else (false, m + 1) := by
              show (if 60 < m + 1 then _ else _) = _
              rw [if_neg h60, if_neg hA, if_neg hB, if_pos hC]
            rw [e] at h ⊢
            obtain ⟨ws, rfl, hl⟩ := shape hC (by decide +kernel)
            obtain ⟨a, b, rfl⟩ := len2 hl
            by_cases hI : isInt (nthW (.tup [.str "some", a, b]) 1) 0 (r - 1) = true
            · rw [if_pos hI] at h ⊢
              obtain ⟨i, ei, i0, i1⟩ := isInt_inv hI
              have ei' : a = .int i := ei
              subst ei'
              obtain ⟨t, e1, h1, h2, h3, h4⟩ := good_inv l _ _ h
              have e1' : b = toW t := e1
              subst e1'
              refine ⟨.some i t, rfl, ⟨i0, by omega, h1⟩, by show tdp t + 1 ≤ l + 1; omega, ?_, ?_⟩
              · rw [h3]; show m + 1 + (tsz t : Int) = m + ((tsz t + 1 : Nat) : Int); omega
              · show m + ((tsz t + 1 : Nat) : Int) ≤ 60; omega
            · rw [if_neg hI] at h; cases h
          · by_cases hD : (decide (fst v = "both") && decide (fnum v = 3)) = true
            · have e : good k r (l + 1) v m = if (good k r l (nthW v 1) (m + 1)).1 then good k r l (nthW v 2) (good k r l (nthW v 1) (m + 1)).2 else (false, (good k r l (nthW v 1) (m + 1)).2) := by
                show (if 60 < m + 1 then _ else _) = _
                rw [if_neg h60, if_neg hA, if_neg hB, if_neg hC, if_pos hD]
              rw [e] at h ⊢
              obtain ⟨ws, rfl, hl⟩ := shape hD (by decide +kernel)
              obtain ⟨a, b, rfl⟩ := len2 hl
              by_cases hG : (good k r l (nthW (.tup [.str "both", a, b]) 1) (m + 1)).1 = true
              · rw [if_pos hG] at h ⊢
                obtain ⟨t, e1, h1, h2, h3, h4⟩ := good_inv l _ _ hG
                obtain ⟨u, f1, g1, g2, g3, g4⟩ := good_inv l _ _ h
                have e1' : a = toW t := e1
                have f1' : b = toW u := f1
                subst e1' f1'
                rw [h3] at g3 g4
                refine ⟨.both t u, rfl, ⟨h1, g1⟩, by show max (tdp t) (tdp u) + 1 ≤ l + 1; omega, ?_, ?_⟩
                · rw [h3, g3]; show m + 1 + (tsz t : Int) + tsz u = m + ((tsz t + tsz u + 1 : Nat) : Int); omega
                · show m + ((tsz t + tsz u + 1 : Nat) : Int) ≤ 60; omega
              · rw [if_neg hG] at h; cases h
            · have e : good k r (l + 1) v m = (false, m + 1) := by
                show (if 60 < m + 1 then _ else _) = _
                rw [if_neg h60, if_neg hA, if_neg hB, if_neg hC, if_neg hD]
              rw [e] at h; cases h
/-! ### axioms -/
def wfG (k r : Int) : Axm → Prop
  | .is a b => wfT k r a ∧ wfT k r b ∧ tsz a ≤ 60 ∧ tsz b ≤ 60 ∧ tdp a ≤ 20 ∧ tdp b ≤ 20
  | .within i j => 0 ≤ i ∧ i < r ∧ 0 ≤ j ∧ j < r
  | .chain i j l => 0 ≤ i ∧ i < r ∧ 0 ≤ j ∧ j < r ∧ 0 ≤ l ∧ l < r
theorem ints_inv {r : Int} : ∀ {ws : List W}, (ws.all fun w => isInt w 0 (r - 1)) = true → ∃ is : List Int, ws = is.map W.int ∧ ∀ i ∈ is, 0 ≤ i ∧ i < r
  | [], _ => ⟨[], rfl, by simp⟩
  | w :: ws, h => by
    rw [List.all_cons, Bool.and_eq_true] at h
    obtain ⟨i, rfl, i0, i1⟩ := isInt_inv h.1
    obtain ⟨is, rfl, h2⟩ := ints_inv h.2
    refine ⟨i :: is, rfl, fun x hx => ?_⟩
    rcases List.mem_cons.mp hx with rfl | hx
    · exact ⟨i0, by omega⟩
    · exact h2 x hx
theorem isAx_inv {k r : Int} {v : W} (h : isAx k r v = true) : ∃ x, v = axW x ∧ wfG k r x := by
  unfold isAx at h
  by_cases hA : (decide (fst v = "is") && decide (fnum v = 3)) = true
  · rw [if_pos hA, Bool.and_eq_true] at h
    obtain ⟨ws, rfl, hl⟩ := shape hA (by decide +kernel)
    obtain ⟨a, b, rfl⟩ := len2 hl
    obtain ⟨t, e1, h1, h2, h3, h4⟩ := good_inv 20 _ _ h.1
    obtain ⟨u, f1, g1, g2, g3, g4⟩ := good_inv 20 _ _ h.2
    have e1' : a = toW t := e1
    have f1' : b = toW u := f1
    subst e1' f1'
    exact ⟨.is t u, rfl, h1, g1, by omega, by omega, h2, g2⟩
  · rw [if_neg hA] at h
    by_cases hB : ((decide (fst v = "within") && decide (fnum v = 3)) || (decide (fst v = "chain") && decide (fnum v = 4))) = true
    · rw [if_pos hB] at h
      rw [Bool.or_eq_true] at hB
      rcases hB with hB | hB
      · obtain ⟨ws, rfl, hl⟩ := shape hB (by decide +kernel)
        obtain ⟨a, b, rfl⟩ := len2 hl
        obtain ⟨is, e, hi⟩ := ints_inv h
        match is, e with
        | [i, j], e =>
          cases e
          have := hi i (by simp)
          have := hi j (by simp)
          exact ⟨.within i j, rfl, by omega, by omega, by omega, by omega⟩
        | [], e => cases e
        | [_], e => cases e
        | _ :: _ :: _ :: _, e => cases e
      · obtain ⟨ws, rfl, hl⟩ := shape hB (by decide +kernel)
        obtain ⟨a, b, c, rfl⟩ := len3 hl
        obtain ⟨is, e, hi⟩ := ints_inv h
        match is, e with
        | [i, j, m], e =>
          cases e
          have := hi i (by simp)
          have := hi j (by simp)
          have := hi m (by simp)
          exact ⟨.chain i j m, rfl, by omega, by omega, by omega, by omega, by omega, by omega⟩
        | [], e => cases e
        | [_], e => cases e
        | [_, _], e => cases e
        | _ :: _ :: _ :: _ :: _, e => cases e
    · rw [if_neg hB] at h; cases h
theorem isAx_G {k r : Int} : ∀ x : Axm, wfG k r x → isAx k r (axW x) = true
  | .is a b, h => by
    obtain ⟨w1, w2, s1, s2, d1, d2⟩ := h
    rw [isAx_eq (s := "is") (N := 3) rfl rfl, if_pos (by decide +kernel)]
    show ((good k r 20 (toW a) 0).1 && (good k r 20 (toW b) 0).1) = true
    rw [good_T1 w1 (by omega) (by omega), good_T1 w2 (by omega) (by omega)]
    rfl
  | .within i j, h => by
    rw [isAx_eq (s := "within") (N := 3) rfl rfl, if_neg (by decide +kernel), if_pos (by decide +kernel)]
    show (isInt (.int i) 0 (r - 1) && (isInt (.int j) 0 (r - 1) && true)) = true
    obtain ⟨a, b, c, d⟩ := h
    rw [isInt_in a (by omega), isInt_in c (by omega)]; rfl
  | .chain i j l, h => by
    rw [isAx_eq (s := "chain") (N := 4) rfl rfl, if_neg (by decide +kernel), if_pos (by decide +kernel)]
    show (isInt (.int i) 0 (r - 1) && (isInt (.int j) 0 (r - 1) && (isInt (.int l) 0 (r - 1) && true))) = true
    obtain ⟨a, b, c, d, e, f⟩ := h
    rw [isInt_in a (by omega), isInt_in c (by omega), isInt_in e (by omega)]; rfl
theorem axs_inv {k r : Int} : ∀ {ws : List W}, (ws.all (isAx k r)) = true → ∃ xs : List Axm, ws = xs.map axW ∧ ∀ x ∈ xs, wfG k r x
  | [], _ => ⟨[], rfl, by simp⟩
  | w :: ws, h => by
    rw [List.all_cons, Bool.and_eq_true] at h
    obtain ⟨x, rfl, hx⟩ := isAx_inv h.1
    obtain ⟨xs, rfl, h2⟩ := axs_inv h.2
    refine ⟨x :: xs, rfl, fun y hy => ?_⟩
    rcases List.mem_cons.mp hy with rfl | hy
    · exact hx
    · exact h2 y hy
end K01
set_option Elab.async false
set_option autoImplicit false
set_option linter.all false
set_option maxRecDepth 100000
namespace K01
open PySem PySem.Spec PyProof.Rows L2 MP
mutual
def plS : PyData → Bool
  | .none => true
  | .int _ => true
  | .str _ => true
  | .tuple xs => plSL xs
  | _ => false
def plSL : List PyData → Bool
  | [] => true
  | x :: xs => plS x && plSL xs
end
theorem plS_mem : ∀ {ds : List PyData} {d : PyData}, plSL ds = true → d ∈ ds → plS d = true
  | e :: ds, d, h, hd => by
    rw [plSL, Bool.and_eq_true] at h
    rcases List.mem_cons.mp hd with q | q
    · subst q; exact h.1
    · exact plS_mem h.2 q
/-! ### depth -/
mutual
def dW : W → Nat
  | .tup l => dWs l + 1
  | _ => 0
def dWs : List W → Nat
  | [] => 0
  | w :: r => max (dW w) (dWs r)
end
theorem dW_T : ∀ t : Tm, dW (toW t) = tdp t
  | .any => rfl
  | .none => rfl
  | .kind _ => rfl
  | .var _ => rfl
  | .some _ t => by
    have := dW_T t
    show max 0 (max 0 (max (dW (toW t)) 0)) + 1 = tdp t + 1
    omega
  | .both a b => by
    have := dW_T a
    have := dW_T b
    show max 0 (max (dW (toW a)) (max (dW (toW b)) 0)) + 1 = max (tdp a) (tdp b) + 1
    omega
theorem kdep_A : ∀ x : Axm, (keyA x).depth ≤ dW (axW x)
  | .is a b => by
    have b1 := kdep_T a
    have b2 := kdep_T b
    have c1 := dW_T a
    have c2 := dW_T b
    show max 0 (max (keyT a).depth (max (keyT b).depth 0)) + 1 ≤ max 0 (max (dW (toW a)) (max (dW (toW b)) 0)) + 1
    omega
  | .within _ _ => by show 0 + 1 ≤ 0 + 1; omega
  | .chain _ _ _ => by show 0 + 1 ≤ 0 + 1; omega
theorem dWs_mem {w : W} : ∀ {ws : List W}, w ∈ ws → dW w ≤ dWs ws
  | x :: r, h => by
    show dW w ≤ max (dW x) (dWs r)
    rcases List.mem_cons.mp h with rfl | h
    · omega
    · have := dWs_mem h
      omega
theorem dep_G {k r : Int} : ∀ x : Axm, wfG k r x → (datA x).depth ≤ 22 ∧ cnt (datA x) ≤ 400
  | .is a b, h => by
    obtain ⟨_, _, s1, s2, d1, d2⟩ := h
    have a1 := dep_T a
    have a2 := dep_T b
    have c1 := cnt_T a
    have c2 := cnt_T b
    refine ⟨?_, ?_⟩
    · show max 0 (max (datT a).depth (max (datT b).depth 0)) + 1 ≤ 22
      omega
    · show 1 + (cnt (datT a) + (cnt (datT b) + 0)) + 1 ≤ 400
      omega
  | .within _ _, _ => ⟨by show 0 + 1 ≤ 22; omega, by show 1 + (1 + (1 + 0)) + 1 ≤ 400; omega⟩
  | .chain _ _ _, _ => ⟨by show 0 + 1 ≤ 22; omega, by show 1 + (1 + (1 + (1 + 0))) + 1 ≤ 400; omega⟩
theorem lay_GL {k r : Int} : ∀ xs : List Axm, (∀ x ∈ xs, wfG k r x) → PyData.canLayAll0 (xs.map datA) = true ∧ PyData.depthAll (xs.map datA) ≤ 22 ∧ cntL (xs.map datA) ≤ 400 * xs.length
  | [], _ => ⟨rfl, Nat.zero_le _, Nat.zero_le _⟩
  | x :: rs, h => by
    obtain ⟨h1, h2, h3⟩ := lay_GL rs fun y hy => h y (List.mem_cons_of_mem _ hy)
    obtain ⟨g1, g2⟩ := dep_G x (h x List.mem_cons_self)
    rw [List.map_cons, List.length_cons]
    refine ⟨?_, ?_, ?_⟩
    · unfold PyData.canLayAll0
      rw [lay_A, h1]; rfl
    · unfold PyData.depthAll
      omega
    · unfold cntL
      omega
theorem ok_G {k r : Int} {xs : List Axm} {μ : Mem} (h : ∀ x ∈ xs, wfG k r x) (hl : xs.length ≤ 60) : OkV μ (.tup (xs.map axW)) (.tuple (xs.map datA)) := by
  obtain ⟨h1, h2, h3⟩ := lay_GL xs h
  refine ⟨.tup (dats_A xs), fine_of h1 ?_ ?_⟩
  · show PyData.depthAll (xs.map datA) + 1 ≤ 64
    omega
  · show cntL (xs.map datA) + 1 ≤ 1000000
    omega
/-! ### what a value, its key and its data have to do with each other -/
mutual
def noB : W → Bool
  | .bl _ => false
  | .tup l => noBs l
  | _ => true
def noBs : List W → Bool
  | [] => true
  | w :: r => noB w && noBs r
end
theorem noB_T : ∀ t : Tm, noB (toW t) = true
  | .any => rfl
  | .none => rfl
  | .kind _ => rfl
  | .var _ => rfl
  | .some _ t => by
    show (true && (true && (noB (toW t) && true))) = true
    rw [noB_T t]; rfl
  | .both a b => by
    show (true && (noB (toW a) && (noB (toW b) && true))) = true
    rw [noB_T a, noB_T b]; rfl
theorem noB_A : ∀ x : Axm, noB (axW x) = true
  | .is a b => by
    show (true && (noB (toW a) && (noB (toW b) && true))) = true
    rw [noB_T a, noB_T b]; rfl
  | .within _ _ => rfl
  | .chain _ _ _ => rfl
mutual
theorem key_fun : ∀ {w : W} {k k' : NestedKey}, KeyW w k → KeyW w k' → k = k'
  | _, _, _, .non, .non => rfl
  | _, _, _, .bl _, .bl _ => rfl
  | _, _, _, .int _, .int _ => rfl
  | _, _, _, .str _, .str _ => rfl
  | _, _, _, .tup h, .tup h' => by rw [keys_fun h h']
theorem keys_fun : ∀ {w : List W} {k k' : List NestedKey}, KeysW w k → KeysW w k' → k = k'
  | _, _, _, .nil, .nil => rfl
  | _, _, _, .cons h t, .cons h' t' => by rw [key_fun h h', keys_fun t t']
end
mutual
theorem key_inj : ∀ {w w' : W} {k : NestedKey}, KeyW w k → KeyW w' k → noB w = true → noB w' = true → w = w'
  | _, _, _, .non, .non, _, _ => rfl
  | _, _, _, .bl _, _, h, _ => by cases h
  | _, _, _, .int _, .int _, _, _ => rfl
  | _, _, _, .int _, .bl _, _, h => by cases h
  | _, _, _, .str _, .str _, _, _ => rfl
  | _, _, _, .tup h, .tup h', n, n' => by rw [keys_inj h h' n n']
theorem keys_inj : ∀ {w w' : List W} {k : List NestedKey}, KeysW w k → KeysW w' k → noBs w = true → noBs w' = true → w = w'
  | _, _, _, .nil, .nil, _, _ => rfl
  | _, _, _, .cons h t, .cons h' t', n, n' => by
    rw [noBs, Bool.and_eq_true] at n n'
    rw [key_inj h h' n.1 n'.1, keys_inj t t' n.2 n'.2]
end
theorem keyA_iff {x y : Axm} : keyA x = keyA y ↔ axW x = axW y := by
  constructor
  · intro h
    have h1 := key_A x
    rw [h] at h1
    exact key_inj h1 (key_A y) (noB_A x) (noB_A y)
  · intro h
    have h1 := key_A x
    rw [h] at h1
    exact key_fun h1 (key_A y)
mutual
theorem dat_inj {μ : Mem} : ∀ {w w' : W} {d : PyData}, Dat μ w d → Dat μ w' d → plS d = true → w = w'
  | _, _, _, .non, .non, _ => rfl
  | _, _, _, .bl _, _, h => by cases h
  | _, _, _, .int _, .int _, _ => rfl
  | _, _, _, .str _, .str _, _ => rfl
  | _, _, _, .tup h, .tup h', n => by rw [dats_inj h h' n]
  | _, _, _, .lst _ _, _, h => by cases h
  | _, _, _, .rol _ _, _, h => by cases h
theorem dats_inj {μ : Mem} : ∀ {w w' : List W} {d : List PyData}, Dats μ w d → Dats μ w' d → plSL d = true → w = w'
  | _, _, _, .nil, .nil, _ => rfl
  | _, _, _, .cons h t, .cons h' t', n => by
    rw [plSL, Bool.and_eq_true] at n
    rw [dat_inj h h' n.1, dats_inj t t' n.2]
end
mutual
theorem eqv_eq : ∀ {d e : PyData}, plS d = true → plS e = true → PyData.eqv d e = true → d = e
  | .none, .none, _, _, _ => rfl
  | .none, .int _, _, _, h => by cases h
  | .none, .str _, _, _, h => by cases h
  | .none, .tuple _, _, _, h => by cases h
  | .int i, .int j, _, _, h => by rw [show i = j from of_decide_eq_true h]
  | .int _, .none, _, _, h => by cases h
  | .int _, .str _, _, _, h => by cases h
  | .int _, .tuple _, _, _, h => by cases h
  | .str i, .str j, _, _, h => by rw [show i = j from of_decide_eq_true h]
  | .str _, .none, _, _, h => by cases h
  | .str _, .int _, _, _, h => by cases h
  | .str _, .tuple _, _, _, h => by cases h
  | .tuple xs, .tuple ys, h1, h2, h => by rw [eqv_eqs h1 h2 h]
  | .tuple _, .none, _, _, h => by cases h
  | .tuple _, .int _, _, _, h => by cases h
  | .tuple _, .str _, _, _, h => by cases h
  | .bool _, _, h, _, _ => by cases h
  | .list _, _, h, _, _ => by cases h
  | .dict _, _, h, _, _ => by cases h
  | _, .bool _, _, h, _ => by cases h
  | _, .list _, _, h, _ => by cases h
  | _, .dict _, _, h, _ => by cases h
theorem eqv_eqs : ∀ {d e : List PyData}, plSL d = true → plSL e = true → PyData.eqvAll d e = true → d = e
  | [], [], _, _, _ => rfl
  | [], _ :: _, _, _, h => by cases h
  | _ :: _, [], _, _, h => by cases h
  | x :: xs, y :: ys, h1, h2, h => by
    rw [plSL, Bool.and_eq_true] at h1 h2
    rw [PyData.eqvAll, Bool.and_eq_true] at h
    rw [eqv_eq h1.1 h2.1 h.1, eqv_eqs h1.2 h2.2 h.2]
end
theorem plS_T : ∀ t : Tm, plS (datT t) = true
  | .any => rfl
  | .none => rfl
  | .kind _ => rfl
  | .var _ => rfl
  | .some _ t => by
    show (true && (true && (plS (datT t) && true))) = true
    rw [plS_T t]; rfl
  | .both a b => by
    show (true && (plS (datT a) && (plS (datT b) && true))) = true
    rw [plS_T a, plS_T b]; rfl
theorem plS_A : ∀ x : Axm, plS (datA x) = true
  | .is a b => by
    show (true && (plS (datT a) && (plS (datT b) && true))) = true
    rw [plS_T a, plS_T b]; rfl
  | .within _ _ => rfl
  | .chain _ _ _ => rfl
theorem eqvA_iff {x y : Axm} : PyData.eqv (datA x) (datA y) = true ↔ axW x = axW y := by
  constructor
  · intro h
    have e := eqv_eq (plS_A x) (plS_A y) h
    have h1 : Dat (fun _ => none) (axW x) (datA x) := dat_A x
    rw [e] at h1
    exact dat_inj h1 (dat_A y) (plS_A y)
  · intro h
    have h1 : Dat (fun _ => none) (axW x) (datA x) := dat_A x
    rw [h] at h1
    rw [dat_uniq h1 (dat_A y)]
    exact eqv_refl _ (plain_A y)
/-! ### no two alike -/
open Classical in
theorem nodup_le {α : Type} : ∀ {l m : List α}, l.Nodup → (∀ x ∈ l, x ∈ m) → l.length ≤ m.length
  | [], _, _, _ => Nat.zero_le _
  | a :: l, m, h, hs => by
    obtain ⟨h1, h2⟩ := List.nodup_cons.mp h
    have ha := hs a List.mem_cons_self
    have := nodup_le (m := m.erase a) h2 fun x hx => (List.mem_erase_of_ne fun e => by subst e; exact h1 hx).mpr (hs x (List.mem_cons_of_mem _ hx))
    rw [List.length_erase_of_mem ha] at this
    have := List.length_pos_of_mem ha
    rw [List.length_cons]
    omega
open Classical in
theorem nodup_of {α : Type} : ∀ {m l : List α}, l.Nodup → (∀ x ∈ l, x ∈ m) → m.length ≤ l.length → m.Nodup
  | [], _, _, _, _ => List.nodup_nil
  | a :: m, l, h, hs, hl => by
    rw [List.length_cons] at hl
    have ha : a ∉ m := fun z => by
      have := nodup_le (m := m) h fun x hx => by
        rcases List.mem_cons.mp (hs x hx) with e | e
        · rw [e]; exact z
        · exact e
      omega
    refine List.nodup_cons.mpr ⟨ha, ?_⟩
    have hal : a ∈ l := Classical.byContradiction fun z => by
      have := nodup_le (m := m) h fun x hx => by
        rcases List.mem_cons.mp (hs x hx) with e | e
        · subst e; exact absurd hx z
        · exact e
      omega
    refine nodup_of (l := l.erase a) (h.erase a) (fun x hx => ?_) ?_
    · rcases List.mem_cons.mp (hs x (List.mem_of_mem_erase hx)) with e | e
      · subst e
        exact absurd hx (h.not_mem_erase)
      · exact e
    · rw [List.length_erase_of_mem hal]
      omega
theorem set_len {α : Type} {ks l : List α} (h : l.Nodup) (hm : ∀ k, k ∈ l ↔ k ∈ ks) : l.length < ks.length ↔ ¬ ks.Nodup := by
  constructor
  · intro hl hn
    have := nodup_le hn fun x hx => (hm x).mpr hx
    omega
  · intro hn
    have := nodup_le h fun x hx => (hm x).mp hx
    refine Classical.byContradiction fun z => hn (nodup_of h (fun x hx => (hm x).mp hx) (by omega))
theorem nodup_keys : ∀ xs : List Axm, (xs.map keyA).Nodup ↔ (xs.map axW).Nodup
  | [] => by simp
  | x :: xs => by
    rw [List.map_cons, List.map_cons, List.nodup_cons, List.nodup_cons, nodup_keys xs]
    have e : keyA x ∈ xs.map keyA ↔ axW x ∈ xs.map axW := by
      rw [List.mem_map, List.mem_map]
      exact ⟨fun ⟨y, h1, h2⟩ => ⟨y, h1, keyA_iff.mp h2⟩, fun ⟨y, h1, h2⟩ => ⟨y, h1, keyA_iff.mpr h2⟩⟩
    rw [e]
theorem nodup_take {α : Type} (l : List α) : l.Nodup ↔ ∀ (j : Nat) (a : α), l[j]? = some a → a ∉ l.take j := by
  constructor
  · intro h j a e z
    obtain ⟨i, hi⟩ := List.mem_iff_getElem?.mp z
    rw [List.getElem?_take] at hi
    by_cases hij : i < j
    · rw [if_pos hij] at hi
      have := (List.getElem?_inj (List.getElem?_eq_some_iff.mp hi).1 h).mp (hi.trans e.symm)
      omega
    · rw [if_neg hij] at hi; cases hi
  · intro h
    unfold List.Nodup
    rw [List.pairwise_iff_getElem]
    intro i j hi hj hij e
    have e2 := List.getElem?_eq_getElem hj
    refine h j _ e2 (List.mem_iff_getElem?.mpr ⟨i, ?_⟩)
    rw [List.getElem?_take, if_pos hij, List.getElem?_eq_getElem hi, e]
/-- a terminology -/
structure TmsOk (k r : Int) (xs : List Axm) : Prop where
  k1 : 1 ≤ k
  k2 : k ≤ 16
  r1 : 0 ≤ r
  r2 : r ≤ 6
  few : xs.length ≤ 40
  ax : ∀ x ∈ xs, wfG k r x
  nd : (xs.map axW).Nodup
  tot : totW (xs.map axW) ≤ 400
def IsTerms (v : W) : Prop := ∃ k r xs, v = termsW k r (xs.map axW) ∧ TmsOk k r xs
open Classical in
noncomputable def isTm (v : W) : Bool := decide (IsTerms v)
open Classical in
theorem isTm_t {v : W} (h : IsTerms v) : isTm v = true := by
  unfold isTm
  exact decide_eq_true h
open Classical in
theorem isTm_f {v : W} (h : ¬ IsTerms v) : isTm v = false := by
  unfold isTm
  exact decide_eq_false h
/-- a value that may be a terminology -/
structure Tv (p : Addr) (μ : Mem) (v : W) : Prop where
  vl : Vl p μ 60 v
  dp : dW v ≤ 8
end K01
set_option Elab.async false
set_option autoImplicit false
set_option linter.all false
set_option maxRecDepth 100000
namespace K01
open PySem PySem.Spec PyProof.Rows L2 MP
theorem fnum4 {v : W} (h : (decide (fst v = "terms") && decide (fnum v = 4)) = true) : ∃ a b d, v = .tup [.str "terms", a, b, d] := by
  obtain ⟨ws, rfl, hl⟩ := shape h (by decide +kernel)
  obtain ⟨a, b, d, rfl⟩ := len3 hl
  exact ⟨a, b, d, rfl⟩
theorem tm_form {v : W} (h : IsTerms v) : (decide (fst v = "terms") && decide (fnum v = 4)) = true := by
  obtain ⟨k, r, xs, rfl, _⟩ := h
  show (decide (("terms" : Str) = "terms") && decide (((3 : Nat) : Int) + 1 = 4)) = true
  decide +kernel
theorem tm_parts {a b d : W} (h : IsTerms (.tup [.str "terms", a, b, d])) : ∃ k r xs, a = .int k ∧ b = .int r ∧ d = .tup (xs.map axW) ∧ TmsOk k r xs := by
  obtain ⟨k, r, xs, e, h⟩ := h
  unfold termsW at e
  injection e with e
  injection e with _ e
  injection e with e1 e
  injection e with e2 e
  injection e with e3 e
  exact ⟨k, r, xs, e1, e2, e3, h⟩
theorem axs_map {k r : Int} {xs : List Axm} (h : ∀ x ∈ xs, wfG k r x) : ((xs.map axW).all (isAx k r)) = true := by
  rw [List.all_map, List.all_eq_true]
  exact fun x hx => isAx_G x (h x hx)
theorem Tv.mem3 {p : Addr} {μ : Mem} {a b d : W} (h : Tv p μ (.tup [.str "terms", a, b, d])) : Vl p μ 60 a ∧ Vl p μ 60 b ∧ Vl p μ 60 d ∧ dW d ≤ 7 := by
  refine ⟨h.vl.mem (by simp), h.vl.mem (by simp), h.vl.mem (by simp), ?_⟩
  have h1 := h.dp
  have h2 : dW (.tup [.str "terms", a, b, d]) = max 0 (max (dW a) (max (dW b) (max (dW d) 0))) + 1 := rfl
  omega
theorem axW_tup (x : Axm) : ∃ us, axW x = .tup us := by cases x <;> exact ⟨_, rfl⟩
open Classical in
theorem sp_is_terms {c : List Addr} {n : Nat} {pb : Addr} {v : W} {μ : Mem} (hn : 75 ≤ n) (hv : Tv pb μ v) : Pu (Gm c n j_is_terms) [v] μ (.bl (isTm v)) := fun Q E hq => by
  obtain ⟨n, rfl⟩ : ∃ j, n = j + 1 + 1 := ⟨n - 2, by omega⟩
  refine ⟨rfl, ?_⟩
  show dSs _ _ t_is_terms [some v, none, none, none, none, none] μ _ _
  simp only [t_is_terms, dSs, dS, dE, dA, dT, dAnds, dOrs, dTAnds, dTOrs, dIfs, dO, dG, dGs, dI, lenGs, sSeq, sIf, sRet, sRetN, sAsg, sDrop, sNext, sPar, sPar3, sBreak, sCont, eVar, eC, eOp, eUn, eChain, eAnd, eOr, eNot, eIte, aNil, aCons, eTup, eLst, eCall, eCB, tVal, tAndM, tOrM, tNotM, eSl, pSome, pNone, eDk0, eDt0, eDkc, gNm, gTp, gNl, gCn, wipeM, List.map_cons, List.map_nil, le_ii, lt_ii, gt_ii, ge_ii, add_ii, sub_ii, iadd_ii, neg_i, len_t, int_i, abs_i, List.getElem?_cons_zero, List.getElem?_cons_succ, List.set_cons_zero, List.set_cons_succ, List.length_cons, List.length_nil, Option.some.injEq, W.bl.injEq, W.int.injEq, W.str.injEq, W.tup.injEq, exists_eq_left', exists_eq_left, ↓reduceIte, Bool.not_true, Bool.not_false, Bool.false_eq_true, if_true, if_false, tb_bop0, tb_bop1, tb_bop2, tb_bop3, tb_bop4, tb_bop5, tb_bop6, tb_aug0, tb_aug1, tb_cop0, tb_cop1, tb_cop2, tb_cop3, tb_cop4, tb_cop5, tb_cop6, tb_cop7, tb_cop8, tb_cop9, tb_cop10, tb_cop11, tb_cop12, tb_ix0, tb_ix1, tb_set0, tb_set1, tb_set2, tb_bc0, tb_bc1, tb_bc2, tb_bc3, tb_bc4, tb_bc5, tb_bc6, tb_bc7, tb_bc8, tb_bc9, tb_bc10, tb_bc11, tb_bc12, tb_bc13, tb_bc14, tb_bc15, tb_bc16, tb_bc17, tb_bc18, tb_lf0, tb_lf1, tb_lf2, tb_lf3, tb_lf4, tb_lf5, tb_lf6, tb_bm0, tb_bm1, tb_bm2, tb_bm3, tb_bm4, tb_it0, tb_it1, tb_it2, tb_it3, tb_it4, tb_spc0, tb_spc1, tb_spc2, lb_bops, lb_augs, lb_cops, lb_ixs, lb_sets, lb_bcs, lb_lfs, lb_bms, lb_its, lb_spcs, lb_cst0, lb_cst1, lb_cst2, lb_cst3, lb_cst4, lb_cst5, lb_cst6, lb_clsA0, lb_clsI0, eLcI, iSq]
  refine call_pu (sp_form_of hv.vl) ⟨by decide, o_nef (vl_fst hv.vl) sk_terms ⟨_, rfl, ?_⟩⟩
  by_cases hf : (decide (fst v = "terms") && decide (fnum v = 4)) = true
  · rw [hf, if_neg (by decide)]
    obtain ⟨a, b, d, rfl⟩ := fnum4 hf
    obtain ⟨va, vb, vd, dd⟩ := hv.mem3
    refine ⟨rfl, rfl, call_pu (sp_is_integer va) ⟨_, rfl, ?_⟩⟩
    have no : ¬ IsTerms (.tup [.str "terms", a, b, d]) → Dn Q (.bl false) μ := fun z => by
      rw [isTm_f z] at hq
      exact Dn.of hq
    by_cases h1 : isInt a 1 16 = true
    · rw [h1, if_neg (by decide)]
      refine call_pu (sp_is_integer vb) ⟨_, rfl, ?_⟩
      by_cases h2 : isInt b 0 6 = true
      · rw [h2, if_neg (by decide)]
        obtain ⟨k, rfl, k1, k2⟩ := isInt_inv h1
        obtain ⟨r, rfl, r1, r2⟩ := isInt_inv h2
        refine isi_tupV vd ⟨_, rfl, ?_⟩
        cases vd with
        | tup axs ha hal =>
          refine (if_neg (by simp [isTup])).mpr ?_
          simp only [len_t]
          refine o_gti ⟨_, rfl, ?_⟩
          by_cases h3 : (40 : Int) < axs.length
          · exact (if_pos (decide_eq_true h3)).mpr (no fun z => by
              obtain ⟨k', r', xs, _, _, e, h⟩ := tm_parts z
              injection e with e
              have := h.few
              rw [e, List.length_map] at h3
              omega)
          · refine (if_neg (by rw [decide_eq_true_eq]; exact h3)).mpr ?_
            refine loopC_all (fun w => .bl (isAx k r w)) trivial _ _ (fun w hw Q' q => ?_) (le_line (by rw [List.length_nil]; omega)) ?_
            · simp only [dSs, dS, dE, dA, dT, dAnds, dOrs, dTAnds, dTOrs, dIfs, dO, dG, dGs, dI, lenGs, sSeq, sIf, sRet, sRetN, sAsg, sDrop, sNext, sPar, sPar3, sBreak, sCont, eVar, eC, eOp, eUn, eChain, eAnd, eOr, eNot, eIte, aNil, aCons, eTup, eLst, eCall, eCB, tVal, tAndM, tOrM, tNotM, eSl, pSome, pNone, eDk0, eDt0, eDkc, gNm, gTp, gNl, gCn, wipeM, List.map_cons, List.map_nil, le_ii, lt_ii, gt_ii, ge_ii, add_ii, sub_ii, iadd_ii, neg_i, len_t, int_i, abs_i, List.getElem?_cons_zero, List.getElem?_cons_succ, List.set_cons_zero, List.set_cons_succ, List.length_cons, List.length_nil, Option.some.injEq, W.bl.injEq, W.int.injEq, W.str.injEq, W.tup.injEq, exists_eq_left', exists_eq_left, ↓reduceIte, Bool.not_true, Bool.not_false, Bool.false_eq_true, if_true, if_false, tb_bop0, tb_bop1, tb_bop2, tb_bop3, tb_bop4, tb_bop5, tb_bop6, tb_aug0, tb_aug1, tb_cop0, tb_cop1, tb_cop2, tb_cop3, tb_cop4, tb_cop5, tb_cop6, tb_cop7, tb_cop8, tb_cop9, tb_cop10, tb_cop11, tb_cop12, tb_ix0, tb_ix1, tb_set0, tb_set1, tb_set2, tb_bc0, tb_bc1, tb_bc2, tb_bc3, tb_bc4, tb_bc5, tb_bc6, tb_bc7, tb_bc8, tb_bc9, tb_bc10, tb_bc11, tb_bc12, tb_bc13, tb_bc14, tb_bc15, tb_bc16, tb_bc17, tb_bc18, tb_lf0, tb_lf1, tb_lf2, tb_lf3, tb_lf4, tb_lf5, tb_lf6, tb_bm0, tb_bm1, tb_bm2, tb_bm3, tb_bm4, tb_it0, tb_it1, tb_it2, tb_it3, tb_it4, tb_spc0, tb_spc1, tb_spc2, lb_bops, lb_augs, lb_cops, lb_ixs, lb_sets, lb_bcs, lb_lfs, lb_bms, lb_its, lb_spcs, lb_cst0, lb_cst1, lb_cst2, lb_cst3, lb_cst4, lb_cst5, lb_cst6, lb_clsA0, lb_clsI0]
              exact call_pu (sp_is_axiom (by omega) (by decide) (ha w hw)) q
            · rw [List.nil_append]
              refine ⟨axs.map (isAx k r), by rw [List.map_map]; rfl, _, rfl, ?_⟩
              rw [List.all_map]
              by_cases h4 : (axs.all (isAx k r)) = true
              · have h4' : (axs.all (id ∘ isAx k r)) = true := h4
                rw [h4', if_neg (by decide)]
                obtain ⟨xs, rfl, hx⟩ := axs_inv h4
                have hxl : xs.length ≤ 40 := by rw [List.length_map] at h3; omega
                refine ⟨xs.map keyA, ⟨keys_A xs, fun w hw => ?_, fun kk hk => ?_, by rw [List.length_map]; omega⟩, fun l hl hm => ?_⟩
                · obtain ⟨x, _, rfl⟩ := List.mem_map.mp hw
                  exact axW_tup x
                · obtain ⟨x, hx', rfl⟩ := List.mem_map.mp hk
                  have e1 := kdep_A x
                  have e2 := dWs_mem (List.mem_map.mpr ⟨x, hx', rfl⟩ : axW x ∈ xs.map axW)
                  have e3 : dW (.tup (xs.map axW)) = dWs (xs.map axW) + 1 := rfl
                  omega
                · have e5 := set_len hl hm
                  rw [List.length_map, nodup_keys] at e5
                  simp only [lt_ii]
                  refine ⟨_, rfl, ?_⟩
                  by_cases h5 : (xs.map axW).Nodup
                  · refine (if_neg (by rw [decide_eq_true_eq, List.length_map]; intro z; exact (e5.mp (by omega)) h5)).mpr ?_
                    refine call_pu (sp_total_of (by omega) (ok_G hx (by omega)) fun w hw => ?_) ?_
                    · obtain ⟨x, _, rfl⟩ := List.mem_map.mp hw
                      exact fit_A x
                    · simp only [le_ii]
                      by_cases h6 : totW (xs.map axW) ≤ 400
                      · rw [decide_eq_true h6]
                        rw [show isTm (.tup [.str "terms", .int k, .int r, .tup (xs.map axW)]) = true from isTm_t ⟨k, r, xs, rfl, k1, k2, r1, r2, hxl, hx, h5, h6⟩] at hq
                        exact Dn.of hq
                      · rw [decide_eq_false h6]
                        exact no fun z => by
                          obtain ⟨k', r', xs', _, _, e, h⟩ := tm_parts z
                          injection e with e
                          rw [e] at h6
                          exact h6 h.tot
                  · refine (if_pos (by rw [decide_eq_true_eq, List.length_map]; have := e5.mpr h5; omega)).mpr (no fun z => by
                      obtain ⟨k', r', xs', _, _, e, h⟩ := tm_parts z
                      injection e with e
                      rw [e] at h5
                      exact h5 h.nd)
              · have h4' : (axs.all (id ∘ isAx k r)) = false := by simpa using h4
                rw [h4', if_pos (by decide)]
                exact no fun z => by
                  obtain ⟨k', r', xs, e1, e2, e, h⟩ := tm_parts z
                  injection e with e
                  injection e1 with e1
                  injection e2 with e2
                  subst e1 e2
                  rw [e] at h4
                  exact h4 (axs_map h.ax)
        | _ => exact (if_pos rfl).mpr (no fun z => by
            obtain ⟨k', r', xs, _, _, e, h⟩ := tm_parts z
            cases e)
      · have h2' : isInt b 0 6 = false := by simpa using h2
        rw [h2', if_pos (by decide)]
        exact no fun z => by
          obtain ⟨k', r', xs, _, e, _, h⟩ := tm_parts z
          subst e
          exact h2 (isInt_in h.r1 h.r2)
    · have h1' : isInt a 1 16 = false := by simpa using h1
      rw [h1', if_pos (by decide)]
      exact no fun z => by
        obtain ⟨k', r', xs, e, _, _, h⟩ := tm_parts z
        subst e
        exact h1 (isInt_in h.k1 h.k2)
  · have hf' : (decide (fst v = "terms") && decide (fnum v = 4)) = false := by simpa using hf
    rw [hf', if_pos (by decide)]
    rw [isTm_f fun z => hf (tm_form z)] at hq
    exact Dn.of hq
end K01
set_option Elab.async false
set_option autoImplicit false
set_option linter.all false
set_option maxRecDepth 100000
namespace K01
open PySem PySem.Spec PyProof.Rows L2 MP
/-! ### slices -/
theorem cut_to (xs : List W) (n : Nat) : cutW xs none (some (n : Int)) = xs.take n := by
  unfold cutW
  rw [HT.sIx_nat xs.length _ n, HT.sIx_none]
  show List.take (min n xs.length - 0) (xs.drop 0) = _
  rw [Nat.sub_zero, List.drop_zero]
  by_cases h : xs.length ≤ n
  · rw [Nat.min_eq_right h, List.take_length, List.take_of_length_le h]
  · rw [Nat.min_eq_left (by omega)]
/-! ### _law_is_axiom -/
def sizesA : Axm → List Int
  | .is a b => [(tsz a : Int), (tsz b : Int)]
  | _ => []
section
variable {c : List Addr} {pb : Addr} {L : Nat} {k r : Int}
theorem one_size {n : Nat} {z : Addr} {ss : List Int} {v : W} {x0 x4 x6 x7 : Option W} {μ : Mem} {N : MEnv → Mem → Prop} {R : W → Mem → Prop} {E : MXS} (hn : 24 ≤ n) (hv : Vl pb μ L v) (hz : μ z = some (.lst (ss.map W.int))) (hl : ss.length ≤ 1000)
    (hN : ∀ t x6 μ', v = toW t → wfT k r t → tsz t ≤ 60 → tdp t ≤ 20 → μ' z = some (.lst ((ss ++ [(tsz t : Int)]).map W.int)) → Kp z μ μ' → N [x0, some (.int k), some (.int r), some (.ref z), x4, some v, x6, x7] μ')
    (hR : ∀ μ', (good k r 20 v 0).1 = false → Kp z μ μ' → R (.bl false) μ') :
    dSs (libA c) (Gam (libA c) D n) (forS (thenS (dropS 1 t_law_is_axiom))) [x0, some (.int k), some (.int r), some (.ref z), x4, some v, x6, x7] μ { nx := N, rt := R } E := by
  simp only [t_law_is_axiom, forS, thenS, dropS, dSs, dS, dE, dA, dT, dAnds, dOrs, dTAnds, dTOrs, dIfs, dO, dG, dGs, dI, lenGs, sSeq, sIf, sRet, sRetN, sAsg, sDrop, sNext, sPar, sPar3, sBreak, sCont, eVar, eC, eOp, eUn, eChain, eAnd, eOr, eNot, eIte, aNil, aCons, eTup, eLst, eCall, eCB, tVal, tAndM, tOrM, tNotM, eSl, pSome, pNone, eDk0, eDt0, eDkc, gNm, gTp, gNl, gCn, wipeM, List.map_cons, List.map_nil, le_ii, lt_ii, gt_ii, ge_ii, add_ii, sub_ii, iadd_ii, neg_i, len_t, int_i, abs_i, List.getElem?_cons_zero, List.getElem?_cons_succ, List.set_cons_zero, List.set_cons_succ, List.length_cons, List.length_nil, Option.some.injEq, W.bl.injEq, W.int.injEq, W.str.injEq, W.tup.injEq, exists_eq_left', exists_eq_left, ↓reduceIte, Bool.not_true, Bool.not_false, Bool.false_eq_true, if_true, if_false, tb_bop0, tb_bop1, tb_bop2, tb_bop3, tb_bop4, tb_bop5, tb_bop6, tb_aug0, tb_aug1, tb_cop0, tb_cop1, tb_cop2, tb_cop3, tb_cop4, tb_cop5, tb_cop6, tb_cop7, tb_cop8, tb_cop9, tb_cop10, tb_cop11, tb_cop12, tb_ix0, tb_ix1, tb_set0, tb_set1, tb_set2, tb_bc0, tb_bc1, tb_bc2, tb_bc3, tb_bc4, tb_bc5, tb_bc6, tb_bc7, tb_bc8, tb_bc9, tb_bc10, tb_bc11, tb_bc12, tb_bc13, tb_bc14, tb_bc15, tb_bc16, tb_bc17, tb_bc18, tb_lf0, tb_lf1, tb_lf2, tb_lf3, tb_lf4, tb_lf5, tb_lf6, tb_bm0, tb_bm1, tb_bm2, tb_bm3, tb_bm4, tb_it0, tb_it1, tb_it2, tb_it3, tb_it4, tb_spc0, tb_spc1, tb_spc2, lb_bops, lb_augs, lb_cops, lb_ixs, lb_sets, lb_bcs, lb_lfs, lb_bms, lb_its, lb_spcs, lb_cst0, lb_cst1, lb_cst2, lb_cst3, lb_cst4, lb_cst5, lb_cst6, lb_clsA0, lb_clsI0, eBM]
  intro s hs
  have hzs : z ≠ s := fun e => by subst e; rw [hz] at hs; cases hs
  have k1 : Kp z μ (updM μ s (manyO 0)) := Kp.new hs
  refine call_gv (sp_law_is_term (s := s) 20 n v 0 (updM μ s (manyO 0)) (by omega) (hv.sub (sub_upd hs)) updM_same) fun x μ2 hx => ?_
  obtain ⟨rfl, h2, k2⟩ := hx
  have hz2 : μ2 z = some (.lst (ss.map W.int)) := k2 _ _ hzs (by rw [updM_ne hzs]; exact hz)
  have k12 : Kp z μ μ2 := fun a o n1 e => k2 a o (fun z' => by subst z'; rw [hs] at e; cases e) (k1 a o n1 e)
  refine ⟨_, rfl, ?_⟩
  by_cases hG : (good k r 20 v 0).1 = true
  · rw [hG, if_neg (by decide)]
    obtain ⟨t, rfl, h3, h4, h5, h6⟩ := good_inv 20 _ _ hG
    refine ⟨.inl ⟨rfl, _, .inl hz2⟩, ix_many h2 ⟨_, hz2, Nat.lt_of_le_of_lt (by rw [List.length_map]; omega : _ ≤ 1000) (by decide), hN t _ _ rfl h3 (by omega) h4 ?_ (k12.trans Kp.upd)⟩⟩
    rw [updM_same, List.map_append, h5, Int.zero_add]
    rfl
  · have hG' : (good k r 20 v 0).1 = false := by simpa using hG
    rw [hG', if_pos (by decide)]
    exact hR _ hG' k12
theorem sp_law_is_axiom {n : Nat} {z : Addr} {ss : List Int} {v : W} {μ : Mem} (hn : 26 ≤ n) (hL : L ≤ 1000) (hv : Vl pb μ L v) (hz : μ z = some (.lst (ss.map W.int))) (hl : ss.length ≤ 900) :
    Gv (Gm c n j_law_is_axiom) [v, .int k, .int r, .ref z] μ (fun x μ' => Kp z μ μ' ∧ ((x = .bl false ∧ isAx k r v = false) ∨ ∃ y, x = .bl true ∧ v = axW y ∧ wfG k r y ∧ μ' z = some (.lst ((ss ++ sizesA y).map W.int)))) := fun Q E hq => by
  obtain ⟨n, rfl⟩ : ∃ j, n = j + 1 + 1 := ⟨n - 2, by omega⟩
  refine ⟨rfl, ?_⟩
  show dSs _ _ t_law_is_axiom [some v, some (.int k), some (.int r), some (.ref z), none, none, none, none] μ _ _
  have os := fun ss v x0 x4 x6 x7 μ N R E hv hz hl => one_size (c := c) (pb := pb) (L := L) (k := k) (r := r) (n := n + 1) (z := z) (ss := ss) (v := v) (x0 := x0) (x4 := x4) (x6 := x6) (x7 := x7) (μ := μ) (N := N) (R := R) (E := E) (by omega) hv hz hl
  simp only [t_law_is_axiom, forS, thenS, dropS, dSs, dS, dE, dA, dT, dAnds, dOrs, dTAnds, dTOrs, dIfs, dO, dG, dGs, dI, lenGs, sSeq, sIf, sRet, sRetN, sAsg, sDrop, sNext, sPar, sPar3, sBreak, sCont, eVar, eC, eOp, eUn, eChain, eAnd, eOr, eNot, eIte, aNil, aCons, eTup, eLst, eCall, eCB, tVal, tAndM, tOrM, tNotM, eSl, pSome, pNone, eDk0, eDt0, eDkc, gNm, gTp, gNl, gCn, wipeM, List.map_cons, List.map_nil, le_ii, lt_ii, gt_ii, ge_ii, add_ii, sub_ii, iadd_ii, neg_i, len_t, int_i, abs_i, List.getElem?_cons_zero, List.getElem?_cons_succ, List.set_cons_zero, List.set_cons_succ, List.length_cons, List.length_nil, Option.some.injEq, W.bl.injEq, W.int.injEq, W.str.injEq, W.tup.injEq, exists_eq_left', exists_eq_left, ↓reduceIte, Bool.not_true, Bool.not_false, Bool.false_eq_true, if_true, if_false, tb_bop0, tb_bop1, tb_bop2, tb_bop3, tb_bop4, tb_bop5, tb_bop6, tb_aug0, tb_aug1, tb_cop0, tb_cop1, tb_cop2, tb_cop3, tb_cop4, tb_cop5, tb_cop6, tb_cop7, tb_cop8, tb_cop9, tb_cop10, tb_cop11, tb_cop12, tb_ix0, tb_ix1, tb_set0, tb_set1, tb_set2, tb_bc0, tb_bc1, tb_bc2, tb_bc3, tb_bc4, tb_bc5, tb_bc6, tb_bc7, tb_bc8, tb_bc9, tb_bc10, tb_bc11, tb_bc12, tb_bc13, tb_bc14, tb_bc15, tb_bc16, tb_bc17, tb_bc18, tb_lf0, tb_lf1, tb_lf2, tb_lf3, tb_lf4, tb_lf5, tb_lf6, tb_bm0, tb_bm1, tb_bm2, tb_bm3, tb_bm4, tb_it0, tb_it1, tb_it2, tb_it3, tb_it4, tb_spc0, tb_spc1, tb_spc2, lb_bops, lb_augs, lb_cops, lb_ixs, lb_sets, lb_bcs, lb_lfs, lb_bms, lb_its, lb_spcs, lb_cst0, lb_cst1, lb_cst2, lb_cst3, lb_cst4, lb_cst5, lb_cst6, lb_clsA0, lb_clsI0, eBM] at os
  simp only [t_law_is_axiom, dSs, dS, dE, dA, dT, dAnds, dOrs, dTAnds, dTOrs, dIfs, dO, dG, dGs, dI, lenGs, sSeq, sIf, sRet, sRetN, sAsg, sDrop, sNext, sPar, sPar3, sBreak, sCont, eVar, eC, eOp, eUn, eChain, eAnd, eOr, eNot, eIte, aNil, aCons, eTup, eLst, eCall, eCB, tVal, tAndM, tOrM, tNotM, eSl, pSome, pNone, eDk0, eDt0, eDkc, gNm, gTp, gNl, gCn, wipeM, List.map_cons, List.map_nil, le_ii, lt_ii, gt_ii, ge_ii, add_ii, sub_ii, iadd_ii, neg_i, len_t, int_i, abs_i, List.getElem?_cons_zero, List.getElem?_cons_succ, List.set_cons_zero, List.set_cons_succ, List.length_cons, List.length_nil, Option.some.injEq, W.bl.injEq, W.int.injEq, W.str.injEq, W.tup.injEq, exists_eq_left', exists_eq_left, ↓reduceIte, Bool.not_true, Bool.not_false, Bool.false_eq_true, if_true, if_false, tb_bop0, tb_bop1, tb_bop2, tb_bop3, tb_bop4, tb_bop5, tb_bop6, tb_aug0, tb_aug1, tb_cop0, tb_cop1, tb_cop2, tb_cop3, tb_cop4, tb_cop5, tb_cop6, tb_cop7, tb_cop8, tb_cop9, tb_cop10, tb_cop11, tb_cop12, tb_ix0, tb_ix1, tb_set0, tb_set1, tb_set2, tb_bc0, tb_bc1, tb_bc2, tb_bc3, tb_bc4, tb_bc5, tb_bc6, tb_bc7, tb_bc8, tb_bc9, tb_bc10, tb_bc11, tb_bc12, tb_bc13, tb_bc14, tb_bc15, tb_bc16, tb_bc17, tb_bc18, tb_lf0, tb_lf1, tb_lf2, tb_lf3, tb_lf4, tb_lf5, tb_lf6, tb_bm0, tb_bm1, tb_bm2, tb_bm3, tb_bm4, tb_it0, tb_it1, tb_it2, tb_it3, tb_it4, tb_spc0, tb_spc1, tb_spc2, lb_bops, lb_augs, lb_cops, lb_ixs, lb_sets, lb_bcs, lb_lfs, lb_bms, lb_its, lb_spcs, lb_cst0, lb_cst1, lb_cst2, lb_cst3, lb_cst4, lb_cst5, lb_cst6, lb_clsA0, lb_clsI0, eLcI, iSq, sFor, eBM, cut1]
  have s0 := vl_fst hv
  refine call_pu (sp_law_form hv) ⟨by decide, o_eqf s0 sk_is ⟨_, rfl, ?_⟩⟩
  by_cases hA : (decide (fst v = "is") && decide (fnum v = 3)) = true
  · have e : isAx k r v = ((good k r 20 (nthW v 1) 0).1 && (good k r 20 (nthW v 2) 0).1) := by unfold isAx; rw [if_pos hA]
    rw [if_pos hA]
    obtain ⟨ws, rfl, hws⟩ := shape hA (by decide +kernel)
    obtain ⟨a, b, rfl⟩ := len2 hws
    have va := hv.mem (w := a) (by simp)
    have vb := hv.mem (w := b) (by simp)
    have e' : isAx k r (.tup [.str "is", a, b]) = ((good k r 20 a 0).1 && (good k r 20 b 0).1) := e
    show loopF _ _ _ _ _ [a, b] _ _
    refine ⟨trivial, ?_⟩
    simp only [dSs, dS, dE, dA, dT, dAnds, dOrs, dTAnds, dTOrs, dIfs, dO, dG, dGs, dI, lenGs, sSeq, sIf, sRet, sRetN, sAsg, sDrop, sNext, sPar, sPar3, sBreak, sCont, eVar, eC, eOp, eUn, eChain, eAnd, eOr, eNot, eIte, aNil, aCons, eTup, eLst, eCall, eCB, tVal, tAndM, tOrM, tNotM, eSl, pSome, pNone, eDk0, eDt0, eDkc, gNm, gTp, gNl, gCn, wipeM, List.map_cons, List.map_nil, le_ii, lt_ii, gt_ii, ge_ii, add_ii, sub_ii, iadd_ii, neg_i, len_t, int_i, abs_i, List.getElem?_cons_zero, List.getElem?_cons_succ, List.set_cons_zero, List.set_cons_succ, List.length_cons, List.length_nil, Option.some.injEq, W.bl.injEq, W.int.injEq, W.str.injEq, W.tup.injEq, exists_eq_left', exists_eq_left, ↓reduceIte, Bool.not_true, Bool.not_false, Bool.false_eq_true, if_true, if_false, tb_bop0, tb_bop1, tb_bop2, tb_bop3, tb_bop4, tb_bop5, tb_bop6, tb_aug0, tb_aug1, tb_cop0, tb_cop1, tb_cop2, tb_cop3, tb_cop4, tb_cop5, tb_cop6, tb_cop7, tb_cop8, tb_cop9, tb_cop10, tb_cop11, tb_cop12, tb_ix0, tb_ix1, tb_set0, tb_set1, tb_set2, tb_bc0, tb_bc1, tb_bc2, tb_bc3, tb_bc4, tb_bc5, tb_bc6, tb_bc7, tb_bc8, tb_bc9, tb_bc10, tb_bc11, tb_bc12, tb_bc13, tb_bc14, tb_bc15, tb_bc16, tb_bc17, tb_bc18, tb_lf0, tb_lf1, tb_lf2, tb_lf3, tb_lf4, tb_lf5, tb_lf6, tb_bm0, tb_bm1, tb_bm2, tb_bm3, tb_bm4, tb_it0, tb_it1, tb_it2, tb_it3, tb_it4, tb_spc0, tb_spc1, tb_spc2, lb_bops, lb_augs, lb_cops, lb_ixs, lb_sets, lb_bcs, lb_lfs, lb_bms, lb_its, lb_spcs, lb_cst0, lb_cst1, lb_cst2, lb_cst3, lb_cst4, lb_cst5, lb_cst6, lb_clsA0, lb_clsI0, eBM]
    refine os ss a _ _ none _ μ _ (Dn Q) (fun x _ μ1 => Dn E x μ1) va hz (by omega) (fun t x6 μ1 ea w1 s1 d1 h1 k1 => ?_) fun μ1 hg k1 => ?_
    · have vb1 : Vl pb μ1 L b := vb.imp (fun q xs _ e1 => by
        by_cases hqz : q = z
        · subst hqz; exact ⟨_, h1⟩
        · exact ⟨xs, k1 _ _ hqz e1⟩) (Nat.le_refl _)
      refine ⟨trivial, ?_⟩
      simp only [dSs, dS, dE, dA, dT, dAnds, dOrs, dTAnds, dTOrs, dIfs, dO, dG, dGs, dI, lenGs, sSeq, sIf, sRet, sRetN, sAsg, sDrop, sNext, sPar, sPar3, sBreak, sCont, eVar, eC, eOp, eUn, eChain, eAnd, eOr, eNot, eIte, aNil, aCons, eTup, eLst, eCall, eCB, tVal, tAndM, tOrM, tNotM, eSl, pSome, pNone, eDk0, eDt0, eDkc, gNm, gTp, gNl, gCn, wipeM, List.map_cons, List.map_nil, le_ii, lt_ii, gt_ii, ge_ii, add_ii, sub_ii, iadd_ii, neg_i, len_t, int_i, abs_i, List.getElem?_cons_zero, List.getElem?_cons_succ, List.set_cons_zero, List.set_cons_succ, List.length_cons, List.length_nil, Option.some.injEq, W.bl.injEq, W.int.injEq, W.str.injEq, W.tup.injEq, exists_eq_left', exists_eq_left, ↓reduceIte, Bool.not_true, Bool.not_false, Bool.false_eq_true, if_true, if_false, tb_bop0, tb_bop1, tb_bop2, tb_bop3, tb_bop4, tb_bop5, tb_bop6, tb_aug0, tb_aug1, tb_cop0, tb_cop1, tb_cop2, tb_cop3, tb_cop4, tb_cop5, tb_cop6, tb_cop7, tb_cop8, tb_cop9, tb_cop10, tb_cop11, tb_cop12, tb_ix0, tb_ix1, tb_set0, tb_set1, tb_set2, tb_bc0, tb_bc1, tb_bc2, tb_bc3, tb_bc4, tb_bc5, tb_bc6, tb_bc7, tb_bc8, tb_bc9, tb_bc10, tb_bc11, tb_bc12, tb_bc13, tb_bc14, tb_bc15, tb_bc16, tb_bc17, tb_bc18, tb_lf0, tb_lf1, tb_lf2, tb_lf3, tb_lf4, tb_lf5, tb_lf6, tb_bm0, tb_bm1, tb_bm2, tb_bm3, tb_bm4, tb_it0, tb_it1, tb_it2, tb_it3, tb_it4, tb_spc0, tb_spc1, tb_spc2, lb_bops, lb_augs, lb_cops, lb_ixs, lb_sets, lb_bcs, lb_lfs, lb_bms, lb_its, lb_spcs, lb_cst0, lb_cst1, lb_cst2, lb_cst3, lb_cst4, lb_cst5, lb_cst6, lb_clsA0, lb_clsI0, eBM]
      refine os (ss ++ [(tsz t : Int)]) b _ _ x6 _ μ1 _ (Dn Q) (fun x _ μ1 => Dn E x μ1) vb1 h1 (by rw [List.length_append, List.length_singleton]; omega) (fun u x6 μ2 eb w2 s2 d2 h2 k2 => ?_) fun μ2 hg k2 => ?_
      · subst ea eb
        refine ⟨trivial, Dn.of (hq _ _ ⟨k1.trans k2, .inr ⟨.is t u, rfl, rfl, ⟨w1, w2, s1, s2, d1, d2⟩, ?_⟩⟩)⟩
        rw [h2, List.append_assoc]
        rfl
      · refine Dn.of (hq _ _ ⟨k1.trans k2, .inl ⟨rfl, ?_⟩⟩)
        rw [e', hg, Bool.and_false]
    · refine Dn.of (hq _ _ ⟨k1, .inl ⟨rfl, ?_⟩⟩)
      rw [e', hg, Bool.false_and]
  · refine (if_neg hA).mpr ⟨by decide, by decide, by decide, fun q hq' => o_infL s0 sk_within sk_chain updM_same ⟨_, rfl, ?_⟩⟩
    by_cases hB : ((decide (fst v = "within") && decide (fnum v = 3)) || (decide (fst v = "chain") && decide (fnum v = 4))) = true
    · have e : isAx k r v = (tailW v).all fun w => isInt w 0 (r - 1) := by unfold isAx; rw [if_neg hA, if_pos hB]
      obtain ⟨w, ws, rfl, a1, a2, o1⟩ := vl_nth hv 1 (by simp at hB; omega)
      have et : ws.drop 1 = tailW (.tup ws) := by cases ws <;> rfl
      refine (if_pos hB).mpr ?_
      dsimp only
      rw [et]
      have hvq := hv.sub (sub_upd (o := .lst [.tup [.str "within", .int 3], .tup [.str "chain", .int 4]]) hq')
      have hlen := hv.len
      refine loopC_all (fun w => .bl (isInt w 0 (r - 1))) trivial _ _ (fun w hw Q' q => ?_) ?_ ?_
      · rw [← et] at hw
        simp only [dSs, dS, dE, dA, dT, dAnds, dOrs, dTAnds, dTOrs, dIfs, dO, dG, dGs, dI, lenGs, sSeq, sIf, sRet, sRetN, sAsg, sDrop, sNext, sPar, sPar3, sBreak, sCont, eVar, eC, eOp, eUn, eChain, eAnd, eOr, eNot, eIte, aNil, aCons, eTup, eLst, eCall, eCB, tVal, tAndM, tOrM, tNotM, eSl, pSome, pNone, eDk0, eDt0, eDkc, gNm, gTp, gNl, gCn, wipeM, List.map_cons, List.map_nil, le_ii, lt_ii, gt_ii, ge_ii, add_ii, sub_ii, iadd_ii, neg_i, len_t, int_i, abs_i, List.getElem?_cons_zero, List.getElem?_cons_succ, List.set_cons_zero, List.set_cons_succ, List.length_cons, List.length_nil, Option.some.injEq, W.bl.injEq, W.int.injEq, W.str.injEq, W.tup.injEq, exists_eq_left', exists_eq_left, ↓reduceIte, Bool.not_true, Bool.not_false, Bool.false_eq_true, if_true, if_false, tb_bop0, tb_bop1, tb_bop2, tb_bop3, tb_bop4, tb_bop5, tb_bop6, tb_aug0, tb_aug1, tb_cop0, tb_cop1, tb_cop2, tb_cop3, tb_cop4, tb_cop5, tb_cop6, tb_cop7, tb_cop8, tb_cop9, tb_cop10, tb_cop11, tb_cop12, tb_ix0, tb_ix1, tb_set0, tb_set1, tb_set2, tb_bc0, tb_bc1, tb_bc2, tb_bc3, tb_bc4, tb_bc5, tb_bc6, tb_bc7, tb_bc8, tb_bc9, tb_bc10, tb_bc11, tb_bc12, tb_bc13, tb_bc14, tb_bc15, tb_bc16, tb_bc17, tb_bc18, tb_lf0, tb_lf1, tb_lf2, tb_lf3, tb_lf4, tb_lf5, tb_lf6, tb_bm0, tb_bm1, tb_bm2, tb_bm3, tb_bm4, tb_it0, tb_it1, tb_it2, tb_it3, tb_it4, tb_spc0, tb_spc1, tb_spc2, lb_bops, lb_augs, lb_cops, lb_ixs, lb_sets, lb_bcs, lb_lfs, lb_bms, lb_its, lb_spcs, lb_cst0, lb_cst1, lb_cst2, lb_cst3, lb_cst4, lb_cst5, lb_cst6, lb_clsA0, lb_clsI0]
        exact call_pu (sp_law_is_int (hvq.mem (List.mem_of_mem_drop hw))) q
      · rw [← et, List.length_nil, List.length_drop]
        exact le_line (by omega)
      · rw [List.nil_append]
        intro g hg
        have hd : ∀ (ν : Mem) (l : List W), Dats ν (l.map fun w => W.bl (isInt w 0 (r - 1))) (l.map fun w => PyData.bool (isInt w 0 (r - 1))) := by
          intro ν l
          induction l with
          | nil => exact .nil
          | cons x l ih => exact .cons (.bl _) ih
        have hlay : ∀ l : List W, PyData.canLayAll0 (l.map fun w => PyData.bool (isInt w 0 (r - 1))) = true ∧ PyData.depthAll (l.map fun w => PyData.bool (isInt w 0 (r - 1))) = 0 := by
          intro l
          induction l with
          | nil => exact ⟨rfl, rfl⟩
          | cons x l ih =>
            rw [List.map_cons]
            exact ⟨by unfold PyData.canLayAll0; rw [ih.1]; rfl, by unfold PyData.depthAll; rw [ih.2]; rfl⟩
        have hany : ∀ l : List W, (l.map fun w => PyData.bool (isInt w 0 (r - 1))).any (fun z => PyData.eqv z (.bool false)) = !(l.all fun w => isInt w 0 (r - 1)) := by
          intro l
          induction l with
          | nil => rfl
          | cons x l ih =>
            rw [List.map_cons, List.any_cons, List.all_cons, ih]
            cases isInt x 0 (r - 1) <;> rfl
        refine ⟨.bool false, _, .bl false, .inl (.lst updM_same (hd _ _)), rfl, ?_, ?_⟩
        · show (PyData.canLayAll0 _ && decide (PyData.depthAll _ + 1 ≤ 64)) = true
          rw [(hlay _).1, (hlay _).2]; rfl
        · rw [if_pos rfl, hany, Bool.not_not]
          have k1 : Kp z μ (updM (updM μ q (.lst [.tup [.str "within", .int 3], .tup [.str "chain", .int 4]])) g (.lst ((tailW (.tup ws)).map fun w => W.bl (isInt w 0 (r - 1))))) := (Kp.new hq').trans (Kp.new hg)
          have hz' := sub_upd (o := .lst ((tailW (.tup ws)).map fun w => W.bl (isInt w 0 (r - 1)))) hg _ _ (sub_upd (o := .lst [.tup [.str "within", .int 3], .tup [.str "chain", .int 4]]) hq' _ _ hz)
          by_cases hI : ((tailW (.tup ws)).all fun w => isInt w 0 (r - 1)) = true
          · rw [hI]
            obtain ⟨y, ey, hy⟩ := isAx_inv (e.trans hI)
            refine Dn.of (hq _ _ ⟨k1, .inr ⟨y, rfl, ey, hy, ?_⟩⟩)
            have es : sizesA y = [] := by
              cases y with
              | is a b =>
                refine absurd ?_ hA
                rw [ey]
                show (decide (("is" : Str) = "is") && decide (((2 : Nat) : Int) + 1 = 3)) = true
                decide +kernel
              | within _ _ => rfl
              | chain _ _ _ => rfl
            rw [es, List.append_nil]
            exact hz'
          · have hI' : ((tailW (.tup ws)).all fun w => isInt w 0 (r - 1)) = false := by simpa using hI
            rw [hI']
            exact Dn.of (hq _ _ ⟨k1, .inl ⟨rfl, e.trans hI'⟩⟩)
    · have e : isAx k r v = false := by unfold isAx; rw [if_neg hA, if_neg hB]
      exact (if_neg hB).mpr (Dn.of (hq _ _ ⟨Kp.new hq', .inl ⟨rfl, e⟩⟩))
end
end K01
set_option Elab.async false
set_option autoImplicit false
set_option linter.all false
set_option maxRecDepth 100000
namespace K01
open PySem PySem.Spec PyProof.Rows L2 MP
theorem loopC_J {g : MG} {tt : MT} {te : ME} {vs : List Nat} {ρ₀ : MEnv} {ok : Mem → Prop} {Q : List W → Mem → Prop} (J : Mem → Prop) (P : W → Bool) (f : W → W) (hok : ∀ μ, J μ → ok μ) : ∀ (items acc : List W) (μ : Mem), J μ →
    (∀ w ∈ items, ∀ μ, J μ → ∃ ρ1, (∀ R : MEnv → Mem → Prop, R ρ1 μ → g w (wipeM ρ₀ vs) μ R) ∧ (∀ Q' : Bool → Mem → Prop, (∀ μ', J μ' → Q' (P w) μ') → tt ρ1 μ Q' noX) ∧ (P w = true → ∀ μ, J μ → ∀ Q' : MQ, (∀ μ', J μ' → Q' (f w) μ') → te ρ1 μ Q' noX)) → acc.length + items.length ≤ sizeLine →
    (∀ μ', J μ' → Q (acc ++ (items.filter P).map f) μ') → loopC g tt te vs ρ₀ ok Q items acc μ
  | [], acc, μ, hJ, _, _, h => ⟨hok μ hJ, by simpa using h μ hJ⟩
  | w :: r, acc, μ, hJ, h1, hl, h => by
    obtain ⟨ρ1, a1, a2, a3⟩ := h1 w List.mem_cons_self μ hJ
    refine ⟨hok μ hJ, a1 _ (a2 _ fun μ' hJ' => ?_)⟩
    rw [List.length_cons] at hl
    by_cases hP : P w = true
    · rw [if_pos hP]
      refine a3 hP μ' hJ' _ fun μ2 hJ2 => ⟨by omega, loopC_J J P f hok r (acc ++ [f w]) μ2 hJ2 (fun w hw => h1 w (List.mem_cons_of_mem _ hw)) (by rw [List.length_append, List.length_singleton]; omega) fun μ3 hJ3 => ?_⟩
      have := h μ3 hJ3
      rw [List.filter_cons_of_pos hP, List.map_cons] at this
      rw [List.append_assoc]
      exact this
    · rw [if_neg hP]
      refine loopC_J J P f hok r acc μ' hJ' (fun w hw => h1 w (List.mem_cons_of_mem _ hw)) (by omega) fun μ3 hJ3 => ?_
      have := h μ3 hJ3
      rw [List.filter_cons_of_neg hP] at this
      exact this
/-- the store stays -/
theorem loopC_g {g : MG} {tt : MT} {te : ME} {vs : List Nat} {ρ₀ : MEnv} {ok : Mem → Prop} {Q : List W → Mem → Prop} {μ : Mem} (P : W → Bool) (f : W → W) (hok : ok μ) (items acc : List W)
    (h1 : ∀ w ∈ items, ∃ ρ1, (∀ R : MEnv → Mem → Prop, R ρ1 μ → g w (wipeM ρ₀ vs) μ R) ∧ (∀ Q' : Bool → Mem → Prop, Q' (P w) μ → tt ρ1 μ Q' noX) ∧ (P w = true → ∀ Q' : MQ, Q' (f w) μ → te ρ1 μ Q' noX)) (hl : acc.length + items.length ≤ sizeLine)
    (h : Q (acc ++ (items.filter P).map f) μ) : loopC g tt te vs ρ₀ ok Q items acc μ :=
  loopC_J (fun μ' => μ' = μ) P f (fun _ e => e ▸ hok) items acc μ rfl (fun w hw μ' e => by
    subst e
    obtain ⟨ρ1, a1, a2, a3⟩ := h1 w hw
    exact ⟨ρ1, a1, fun Q' q => a2 Q' (q _ rfl), fun hP μ2 e Q' q => by subst e; exact a3 hP Q' (q _ rfl)⟩) hl fun μ' e => by subst e; exact h
/-- a loop that goes back with r at the first item of which P is not so -/
theorem loopF_ret {g : MG} {body : MS} {ok : Mem → Prop} {D : MEnds} {E : MXS} (I : MEnv → Mem → Prop) (P : W → Bool) (r : W) (hok : ∀ ρ μ, I ρ μ → ok μ) : ∀ (items : List W) (ρ : MEnv) (μ : Mem), I ρ μ →
    (∀ w ∈ items, ∀ ρ μ, I ρ μ → ∀ N : MEnv → Mem → Prop, (P w = true → ∀ ρ' μ', I ρ' μ' → N ρ' μ') → (P w = false → ∀ ρ' μ', I ρ' μ' → D.rt r μ') → g w ρ μ fun ρ1 μ1 => body ρ1 μ1 { nx := N, rt := D.rt, bk := D.nx, ct := N } E) →
    (items.all P = true → ∀ ρ' μ', I ρ' μ' → D.nx ρ' μ') → (items.all P = false → ∀ ρ' μ', I ρ' μ' → D.rt r μ') → loopF g body ok D E items ρ μ
  | [], ρ, μ, hI, _, h2, _ => ⟨hok ρ μ hI, h2 rfl ρ μ hI⟩
  | w :: rs, ρ, μ, hI, h1, h2, h3 => by
    refine ⟨hok ρ μ hI, h1 w List.mem_cons_self ρ μ hI _ (fun hP ρ' μ' hI' => ?_) fun hP ρ' μ' hI' => h3 (by rw [List.all_cons, hP]; rfl) ρ' μ' hI'⟩
    refine loopF_ret I P r hok rs ρ' μ' hI' (fun w hw => h1 w (List.mem_cons_of_mem _ hw)) (fun ha => h2 (by rw [List.all_cons, hP, ha]; rfl)) fun ha => h3 (by rw [List.all_cons, hP, ha]; rfl)
theorem dats_ints {μ : Mem} : ∀ l : List Int, Dats μ (l.map W.int) (l.map PyData.int)
  | [] => .nil
  | x :: r => .cons (.int x) (dats_ints r)
theorem sh_ints : ∀ l : List Int, PyData.canLayAll0 (l.map PyData.int) = true ∧ PyData.depthAll (l.map PyData.int) = 0
  | [] => ⟨rfl, rfl⟩
  | x :: r => by
    obtain ⟨h1, h2⟩ := sh_ints r
    rw [List.map_cons]
    exact ⟨by unfold PyData.canLayAll0; rw [h1]; rfl, by unfold PyData.depthAll; rw [h2]; rfl⟩
theorem any_ints (i : Int) : ∀ l : List Int, (l.map PyData.int).any (fun z => PyData.eqv z (.int i)) = decide (i ∈ l)
  | [] => by simp
  | x :: r => by
    rw [List.map_cons, List.any_cons, any_ints i r]
    have e : PyData.eqv (.int x) (.int i) = decide (x = i) := rfl
    rw [e]
    by_cases h : x = i
    · subst h; simp
    · have h' : ¬ i = x := fun z => h z.symm
      simp [h, h']
def pD (p : Int × Int) : PyData := .tuple [.int p.1, .int p.2]
theorem dat_pr {μ : Mem} (p : Int × Int) : Dat μ (pairI p) (pD p) := .tup (.cons (.int _) (.cons (.int _) .nil))
theorem dats_prs {μ : Mem} : ∀ l : List (Int × Int), Dats μ (l.map pairI) (l.map pD)
  | [] => .nil
  | x :: r => .cons (dat_pr x) (dats_prs r)
theorem sh_prs : ∀ l : List (Int × Int), PyData.canLayAll0 (l.map pD) = true ∧ PyData.depthAll (l.map pD) ≤ 1
  | [] => ⟨rfl, Nat.zero_le _⟩
  | x :: r => by
    obtain ⟨h1, h2⟩ := sh_prs r
    rw [List.map_cons]
    refine ⟨by unfold PyData.canLayAll0; rw [h1]; rfl, ?_⟩
    unfold PyData.depthAll
    have : (pD x).depth = 1 := rfl
    omega
theorem eqv_pr (p q : Int × Int) : PyData.eqv (pD p) (pD q) = decide (p = q) := by
  show (decide (p.1 = q.1) && (decide (p.2 = q.2) && true)) = _
  rw [Bool.and_true, Bool.eq_iff_iff, Bool.and_eq_true, decide_eq_true_eq, decide_eq_true_eq, decide_eq_true_eq]
  exact ⟨fun h => Prod.ext h.1 h.2, fun h => by rw [h]; exact ⟨rfl, rfl⟩⟩
theorem any_prs (i : Int × Int) : ∀ l : List (Int × Int), (l.map pD).any (fun z => PyData.eqv z (pD i)) = decide (i ∈ l)
  | [] => by simp
  | x :: r => by
    rw [List.map_cons, List.any_cons, any_prs i r, eqv_pr]
    by_cases h : x = i
    · subst h; simp
    · have h' : ¬ i = x := fun z => h z.symm
      simp [h, h']
theorem sh_tup {ds : List PyData} {m : Nat} (h1 : PyData.canLayAll0 ds = true) (h2 : PyData.depthAll ds ≤ m) (hm : m ≤ 60) : SeqAt.shaped (.list ds) = true := by
  show (PyData.canLayAll0 ds && decide (PyData.depthAll ds + 1 ≤ 64)) = true
  rw [h1, decide_eq_true (by omega : PyData.depthAll ds + 1 ≤ 64)]
  rfl
theorem in_i {neg : Bool} {i : Int} {l : List Int} {y : W} {μ : Mem} {Q : MQ} (hy : y = .tup (l.map W.int) ∨ ∃ a, y = .ref a ∧ μ a = some (.lst (l.map W.int))) (q : Q (.bl (if neg = true then !decide (i ∈ l) else decide (i ∈ l))) μ) : oIn neg (.int i) y μ Q := by
  obtain ⟨h1, h2⟩ := sh_ints l
  refine ⟨.int i, l.map PyData.int, .int i, ?_, rfl, sh_tup h1 (Nat.le_of_eq h2) (by decide), ?_⟩
  · rcases hy with rfl | ⟨a, rfl, e⟩
    · exact .inr (.tup (dats_ints l))
    · exact .inl (.lst e (dats_ints l))
  · rw [any_ints]
    exact q
theorem in_p {neg : Bool} {i : Int × Int} {l : List (Int × Int)} {μ : Mem} {Q : MQ} (q : Q (.bl (if neg = true then !decide (i ∈ l) else decide (i ∈ l))) μ) : oIn neg (pairI i) (.tup (l.map pairI)) μ Q := by
  obtain ⟨h1, h2⟩ := sh_prs l
  refine ⟨pD i, l.map pD, dat_pr i, .inr (.tup (dats_prs l)), rfl, sh_tup h1 h2 (by decide), ?_⟩
  rw [any_prs]
  exact q
theorem zip_tail {α : Type} {R : α → α → Prop} : ∀ {l : List α}, l.Pairwise R → ∀ p ∈ l.zip (l.drop 1), R p.1 p.2
  | [], _, p, hp => by simp at hp
  | [x], _, p, hp => by simp at hp
  | x :: y :: r, h, p, hp => by
    have h2 := List.pairwise_cons.mp h
    simp only [List.drop_succ_cons, List.drop_zero, List.zip_cons_cons, List.mem_cons] at hp
    rcases hp with rfl | hp
    · exact h2.1 y List.mem_cons_self
    · exact zip_tail h2.2 p (by simpa using hp)
theorem lt_i {a b : Int} {μ : Mem} (h : a < b) (Q : MQ) (q : Q (.bl true) μ) : oLtG (.int a) (.int b) μ Q := by
  show Q (.bl (decide (a < b))) μ
  rw [decide_eq_true h]
  exact q
theorem lt_p {a b : Int × Int} {μ : Mem} (h : SrtO.lexB a b = true) (Q : MQ) (q : Q (.bl true) μ) : oLtG (pairI a) (pairI b) μ Q := by
  refine ⟨[a.1, a.2], [b.1, b.2], rfl, rfl, ?_⟩
  have e : HT.lexLt [a.1, a.2] [b.1, b.2] = true := by
    rw [SrtO.lexB_iff] at h
    unfold HT.lexLt
    by_cases h1 : a.1 = b.1
    · rw [if_pos h1]
      unfold HT.lexLt
      rw [if_neg (by omega), decide_eq_true_eq]
      omega
    · rw [if_neg h1, decide_eq_true_eq]
      omega
  rw [e]
  exact q
theorem eqv_nil : ∀ ds : List PyData, PyData.eqvAll ds [] = ds.isEmpty
  | [] => rfl
  | _ :: _ => rfl
theorem eq_nil {a b : Addr} {ws : List W} {ds : List PyData} {μ : Mem} {Q : MQ} (ha : μ a = some (.lst ws)) (hd : Dats μ ws ds) (hs : SeqAt.shaped (.list ds) = true) (hb : μ b = some (.lst [])) (q : Q (.bl ds.isEmpty) μ) : oEq (.ref a) (.ref b) μ Q :=
  eq_d (.lst ha hd) (.lst hb .nil) hs (by decide) (by
    show Q (.bl (PyData.eqvAll ds [])) μ
    rw [eqv_nil]
    exact q)
theorem rng_map (n : Nat) : rangeW 0 n = (List.range n).map fun j : Nat => W.int (j : Int) := by
  unfold rangeW
  refine List.map_congr_left fun j _ => ?_
  rw [Int.zero_add]
theorem tup_sum {xs : List Axm} : (xs.flatMap sizesA).sum = totW (xs.map axW) := by
  unfold totW
  induction xs with
  | nil => rfl
  | cons x xs ih =>
    rw [List.flatMap_cons, List.sum_append, ih, List.map_cons]
    cases x with
    | is a b =>
      have e : isIs (axW (.is a b)) = true := by show decide (("is" : Str) = "is") = true; decide
      rw [List.filter_cons_of_pos e, List.map_cons, List.sum_cons]
      have e2 : axSz (axW (.is a b)) = (tsz a : Int) + tsz b := by
        show szW (toW a) + szW (toW b) = _
        rw [szW_T, szW_T]
      rw [e2]
      show (tsz a : Int) + ((tsz b : Int) + 0) + _ = _
      omega
    | within i j =>
      have e : ¬ isIs (axW (.within i j)) = true := by show ¬ decide (("within" : Str) = "is") = true; decide +kernel
      rw [List.filter_cons_of_neg e]
      show (0 : Int) + _ = _
      omega
    | chain i j l =>
      have e : ¬ isIs (axW (.chain i j l)) = true := by show ¬ decide (("chain" : Str) = "is") = true; decide +kernel
      rw [List.filter_cons_of_neg e]
      show (0 : Int) + _ = _
      omega
theorem sizes_len : ∀ xs : List Axm, (xs.flatMap sizesA).length ≤ 2 * xs.length
  | [] => Nat.zero_le _
  | x :: xs => by
    have := sizes_len xs
    have : (sizesA x).length ≤ 2 := by cases x <;> simp [sizesA]
    rw [List.flatMap_cons, List.length_append, List.length_cons]
    omega
section
variable {c : List Addr} {pb : Addr} {L : Nat} {k r : Int}
theorem vl_z {z : Addr} {ys : List W} {μ μ' : Mem} {v : W} (h : Vl pb μ L v) (kp : Kp z μ μ') (hz : μ' z = some (.lst ys)) : Vl pb μ' L v := h.imp (fun a xs _ e => by
  by_cases ha : a = z
  · subst ha; exact ⟨_, hz⟩
  · exact ⟨xs, kp _ _ ha e⟩) (Nat.le_refl _)
theorem la_loop {n : Nat} {z : Addr} {d : W} {x3 : Option W} {N : MEnv → Mem → Prop} {R : W → Mem → Prop} {E : MXS} {B : MEnv → Mem → Prop} (hn : 26 ≤ n) (hL : L ≤ 1000) : ∀ (axs : List W) (xs : List Axm) (x2 : Option W) (μ : Mem), (∀ w ∈ axs, Vl pb μ L w) → μ z = some (.lst ((xs.flatMap sizesA).map W.int)) → xs.length + axs.length ≤ 60 →
    (∀ ys x2 μ', axs = ys.map axW → (∀ y ∈ ys, wfG k r y) → μ' z = some (.lst (((xs ++ ys).flatMap sizesA).map W.int)) → Kp z μ μ' → N [some (.tup [.str "terms", .int k, .int r, d]), some (.ref z), x2, x3] μ') →
    (∀ μ', axs.all (isAx k r) = false → Kp z μ μ' → R (.bl false) μ') →
    loopF (gNm 2) (dSs (libA c) (Gam (libA c) D n) (forS (dropS 3 t_law_is_terms))) (fun _ => True) { nx := N, rt := R, bk := B } E axs [some (.tup [.str "terms", .int k, .int r, d]), some (.ref z), x2, x3] μ
  | [], xs, x2, μ, _, hz, _, hN, _ => ⟨trivial, hN [] x2 μ rfl (by simp) (by rw [List.append_nil]; exact hz) Kp.refl⟩
  | w :: axs, xs, x2, μ, hv, hz, hl, hN, hR => by
    rw [List.length_cons] at hl
    refine ⟨trivial, ?_⟩
    have next := fun y μ1 (ey : w = axW y) (hy : wfG k r y) (h1 : μ1 z = some (.lst (((xs ++ [y]).flatMap sizesA).map W.int))) (k1 : Kp z μ μ1) => la_loop (n := n) (z := z) (d := d) (x3 := x3) (N := N) (R := R) (E := E) (B := B) hn hL axs (xs ++ [y]) (some w) μ1 (fun u hu => vl_z (hv u (List.mem_cons_of_mem _ hu)) k1 h1) h1 (by rw [List.length_append, List.length_singleton]; omega)
      (fun ys x2 μ2 e h2 h3 k2 => hN (y :: ys) x2 μ2 (by rw [List.map_cons, ← ey, e]) (fun u hu => by
        rcases List.mem_cons.mp hu with rfl | hu
        · exact hy
        · exact h2 u hu) (by rw [List.append_assoc] at h3; exact h3) (k1.trans k2))
      (fun μ2 e k2 => hR μ2 (by rw [List.all_cons, e, Bool.and_false]) (k1.trans k2))
    simp only [t_law_is_terms, forS, dropS, dSs, dS, dE, dA, dT, dAnds, dOrs, dTAnds, dTOrs, dIfs, dO, dG, dGs, dI, lenGs, sSeq, sIf, sRet, sRetN, sAsg, sDrop, sNext, sPar, sPar3, sBreak, sCont, eVar, eC, eOp, eUn, eChain, eAnd, eOr, eNot, eIte, aNil, aCons, eTup, eLst, eCall, eCB, tVal, tAndM, tOrM, tNotM, eSl, pSome, pNone, eDk0, eDt0, eDkc, gNm, gTp, gNl, gCn, wipeM, List.map_cons, List.map_nil, le_ii, lt_ii, gt_ii, ge_ii, add_ii, sub_ii, iadd_ii, neg_i, len_t, int_i, abs_i, List.getElem?_cons_zero, List.getElem?_cons_succ, List.set_cons_zero, List.set_cons_succ, List.length_cons, List.length_nil, Option.some.injEq, W.bl.injEq, W.int.injEq, W.str.injEq, W.tup.injEq, exists_eq_left', exists_eq_left, ↓reduceIte, Bool.not_true, Bool.not_false, Bool.false_eq_true, if_true, if_false, tb_bop0, tb_bop1, tb_bop2, tb_bop3, tb_bop4, tb_bop5, tb_bop6, tb_aug0, tb_aug1, tb_cop0, tb_cop1, tb_cop2, tb_cop3, tb_cop4, tb_cop5, tb_cop6, tb_cop7, tb_cop8, tb_cop9, tb_cop10, tb_cop11, tb_cop12, tb_ix0, tb_ix1, tb_set0, tb_set1, tb_set2, tb_bc0, tb_bc1, tb_bc2, tb_bc3, tb_bc4, tb_bc5, tb_bc6, tb_bc7, tb_bc8, tb_bc9, tb_bc10, tb_bc11, tb_bc12, tb_bc13, tb_bc14, tb_bc15, tb_bc16, tb_bc17, tb_bc18, tb_lf0, tb_lf1, tb_lf2, tb_lf3, tb_lf4, tb_lf5, tb_lf6, tb_bm0, tb_bm1, tb_bm2, tb_bm3, tb_bm4, tb_it0, tb_it1, tb_it2, tb_it3, tb_it4, tb_spc0, tb_spc1, tb_spc2, lb_bops, lb_augs, lb_cops, lb_ixs, lb_sets, lb_bcs, lb_lfs, lb_bms, lb_its, lb_spcs, lb_cst0, lb_cst1, lb_cst2, lb_cst3, lb_cst4, lb_cst5, lb_cst6, lb_clsA0, lb_clsI0] at next ⊢
    have sl := sizes_len xs
    refine ix_t (i := 1) rfl (ix_t (i := 2) rfl (call_gv (sp_law_is_axiom hn hL (hv w List.mem_cons_self) hz (by omega)) fun x μ1 hx => ?_))
    obtain ⟨k1, ⟨rfl, hf⟩ | ⟨y, rfl, ey, hy, h1⟩⟩ := hx
    · exact ⟨_, rfl, (if_pos rfl).mpr (hR _ (by rw [List.all_cons, hf]; rfl) k1)⟩
    · refine ⟨_, rfl, (if_neg (by decide)).mpr (next y μ1 ey hy ?_ k1)⟩
      rw [h1, List.flatMap_append, List.flatMap_cons, List.flatMap_nil, List.append_nil]
theorem in_axs {x : Axm} {xs : List Axm} {μ : Mem} {Q : MQ} {P : Bool} (hx : wfG k r x) (h : ∀ y ∈ xs, wfG k r y) (hP : P = true ↔ axW x ∈ xs.map axW) (q : Q (.bl P) μ) : oIn false (axW x) (.tup (xs.map axW)) μ Q := by
  obtain ⟨h1, h2, h3⟩ := lay_GL xs h
  refine ⟨datA x, xs.map datA, dat_A x, .inr (.tup (dats_A xs)), ?_, sh_tup h1 h2 (by decide), ?_⟩
  · have h4 := (dep_G x hx).1
    unfold SeqAt.shaped
    rw [lay_A, decide_eq_true (by omega : (datA x).depth ≤ 64)]
    rfl
  · rw [if_neg Bool.false_ne_true]
    have e : ((xs.map datA).any fun z => PyData.eqv z (datA x)) = P := by
      rw [Bool.eq_iff_iff, hP, List.any_eq_true, List.mem_map]
      constructor
      · rintro ⟨d, hd, e⟩
        obtain ⟨y, hy, rfl⟩ := List.mem_map.mp hd
        exact ⟨y, hy, eqvA_iff.mp e⟩
      · rintro ⟨y, hy, e⟩
        exact ⟨datA y, List.mem_map.mpr ⟨y, hy, rfl⟩, eqvA_iff.mpr e⟩
    rw [e]
    exact q
end
open Classical in
noncomputable def inPre (ws : List W) (u : Int) : Bool := decide (∃ x, ws[u.toNat]? = some x ∧ x ∈ ws.take u.toNat)
open Classical in
theorem inPre_iff {ws : List W} {j : Nat} : inPre ws (j : Int) = true ↔ ∃ x, ws[j]? = some x ∧ x ∈ ws.take j := by
  unfold inPre
  rw [decide_eq_true_eq, Int.toNat_natCast]
open Classical in
theorem sp_law_is_terms {c : List Addr} {n : Nat} {pb : Addr} {v : W} {μ : Mem} (hn : 75 ≤ n) (hv : Tv pb μ v) : Pu (Gm c n j_law_is_terms) [v] μ (.bl (isTm v)) := fun Q E hq => by
  obtain ⟨n, rfl⟩ : ∃ j, n = j + 1 + 1 := ⟨n - 2, by omega⟩
  refine ⟨rfl, ?_⟩
  show dSs _ _ t_law_is_terms [some v, none, none, none] μ _ _
  have ll := fun k r z d x3 N R E B axs xs x2 μ => la_loop (c := c) (pb := pb) (L := 60) (k := k) (r := r) (n := n + 1) (z := z) (d := d) (x3 := x3) (N := N) (R := R) (E := E) (B := B) (by omega) (by decide) axs xs x2 μ
  simp only [t_law_is_terms, forS, dropS, dSs, dS, dE, dA, dT, dAnds, dOrs, dTAnds, dTOrs, dIfs, dO, dG, dGs, dI, lenGs, sSeq, sIf, sRet, sRetN, sAsg, sDrop, sNext, sPar, sPar3, sBreak, sCont, eVar, eC, eOp, eUn, eChain, eAnd, eOr, eNot, eIte, aNil, aCons, eTup, eLst, eCall, eCB, tVal, tAndM, tOrM, tNotM, eSl, pSome, pNone, eDk0, eDt0, eDkc, gNm, gTp, gNl, gCn, wipeM, List.map_cons, List.map_nil, le_ii, lt_ii, gt_ii, ge_ii, add_ii, sub_ii, iadd_ii, neg_i, len_t, int_i, abs_i, List.getElem?_cons_zero, List.getElem?_cons_succ, List.set_cons_zero, List.set_cons_succ, List.length_cons, List.length_nil, Option.some.injEq, W.bl.injEq, W.int.injEq, W.str.injEq, W.tup.injEq, exists_eq_left', exists_eq_left, ↓reduceIte, Bool.not_true, Bool.not_false, Bool.false_eq_true, if_true, if_false, tb_bop0, tb_bop1, tb_bop2, tb_bop3, tb_bop4, tb_bop5, tb_bop6, tb_aug0, tb_aug1, tb_cop0, tb_cop1, tb_cop2, tb_cop3, tb_cop4, tb_cop5, tb_cop6, tb_cop7, tb_cop8, tb_cop9, tb_cop10, tb_cop11, tb_cop12, tb_ix0, tb_ix1, tb_set0, tb_set1, tb_set2, tb_bc0, tb_bc1, tb_bc2, tb_bc3, tb_bc4, tb_bc5, tb_bc6, tb_bc7, tb_bc8, tb_bc9, tb_bc10, tb_bc11, tb_bc12, tb_bc13, tb_bc14, tb_bc15, tb_bc16, tb_bc17, tb_bc18, tb_lf0, tb_lf1, tb_lf2, tb_lf3, tb_lf4, tb_lf5, tb_lf6, tb_bm0, tb_bm1, tb_bm2, tb_bm3, tb_bm4, tb_it0, tb_it1, tb_it2, tb_it3, tb_it4, tb_spc0, tb_spc1, tb_spc2, lb_bops, lb_augs, lb_cops, lb_ixs, lb_sets, lb_bcs, lb_lfs, lb_bms, lb_its, lb_spcs, lb_cst0, lb_cst1, lb_cst2, lb_cst3, lb_cst4, lb_cst5, lb_cst6, lb_clsA0, lb_clsI0] at ll
  simp only [t_law_is_terms, dSs, dS, dE, dA, dT, dAnds, dOrs, dTAnds, dTOrs, dIfs, dO, dG, dGs, dI, lenGs, sSeq, sIf, sRet, sRetN, sAsg, sDrop, sNext, sPar, sPar3, sBreak, sCont, eVar, eC, eOp, eUn, eChain, eAnd, eOr, eNot, eIte, aNil, aCons, eTup, eLst, eCall, eCB, tVal, tAndM, tOrM, tNotM, eSl, pSome, pNone, eDk0, eDt0, eDkc, gNm, gTp, gNl, gCn, wipeM, List.map_cons, List.map_nil, le_ii, lt_ii, gt_ii, ge_ii, add_ii, sub_ii, iadd_ii, neg_i, len_t, int_i, abs_i, List.getElem?_cons_zero, List.getElem?_cons_succ, List.set_cons_zero, List.set_cons_succ, List.length_cons, List.length_nil, Option.some.injEq, W.bl.injEq, W.int.injEq, W.str.injEq, W.tup.injEq, exists_eq_left', exists_eq_left, ↓reduceIte, Bool.not_true, Bool.not_false, Bool.false_eq_true, if_true, if_false, tb_bop0, tb_bop1, tb_bop2, tb_bop3, tb_bop4, tb_bop5, tb_bop6, tb_aug0, tb_aug1, tb_cop0, tb_cop1, tb_cop2, tb_cop3, tb_cop4, tb_cop5, tb_cop6, tb_cop7, tb_cop8, tb_cop9, tb_cop10, tb_cop11, tb_cop12, tb_ix0, tb_ix1, tb_set0, tb_set1, tb_set2, tb_bc0, tb_bc1, tb_bc2, tb_bc3, tb_bc4, tb_bc5, tb_bc6, tb_bc7, tb_bc8, tb_bc9, tb_bc10, tb_bc11, tb_bc12, tb_bc13, tb_bc14, tb_bc15, tb_bc16, tb_bc17, tb_bc18, tb_lf0, tb_lf1, tb_lf2, tb_lf3, tb_lf4, tb_lf5, tb_lf6, tb_bm0, tb_bm1, tb_bm2, tb_bm3, tb_bm4, tb_it0, tb_it1, tb_it2, tb_it3, tb_it4, tb_spc0, tb_spc1, tb_spc2, lb_bops, lb_augs, lb_cops, lb_ixs, lb_sets, lb_bcs, lb_lfs, lb_bms, lb_its, lb_spcs, lb_cst0, lb_cst1, lb_cst2, lb_cst3, lb_cst4, lb_cst5, lb_cst6, lb_clsA0, lb_clsI0, eLcI, iSq, iFn, sFor]
  refine call_pu (sp_law_form hv.vl) ⟨by decide, o_nef (vl_fst hv.vl) sk_terms ⟨_, rfl, ?_⟩⟩
  by_cases hf : (decide (fst v = "terms") && decide (fnum v = 4)) = true
  · rw [hf, if_neg (by decide)]
    obtain ⟨a, b, d, rfl⟩ := fnum4 hf
    obtain ⟨va, vb, vd, dd⟩ := hv.mem3
    have no : ¬ IsTerms (.tup [.str "terms", a, b, d]) → ∀ μ', Sub μ μ' → Dn Q (.bl false) μ' := fun z μ' s => by
      rw [isTm_f z] at hq
      exact Dn.sub s hq
    refine ix_t (i := 1) rfl (call_pu (sp_law_is_int va) ⟨_, rfl, ?_⟩)
    by_cases h1 : isInt a 1 16 = true
    · rw [h1, if_neg (by decide)]
      refine ix_t (i := 2) rfl (call_pu (sp_law_is_int vb) ⟨_, rfl, ?_⟩)
      by_cases h2 : isInt b 0 6 = true
      · rw [h2, if_neg (by decide)]
        obtain ⟨k, rfl, k1', k2⟩ := isInt_inv h1
        obtain ⟨r, rfl, r1, r2⟩ := isInt_inv h2
        refine ix_t (i := 3) rfl (isi_tupV vd ⟨_, rfl, ?_⟩)
        cases vd with
        | tup axs ha hal =>
          refine (if_neg (by simp [isTup])).mpr (ix_t (i := 3) rfl ?_)
          simp only [len_t]
          refine o_gti ⟨_, rfl, ?_⟩
          by_cases h3 : (40 : Int) < axs.length
          · exact (if_pos (decide_eq_true h3)).mpr (no (fun z => by
              obtain ⟨k', r', xs, _, _, e, h⟩ := tm_parts z
              injection e with e
              have := h.few
              rw [e, List.length_map] at h3
              omega) μ Sub.refl)
          · refine (if_neg (by rw [decide_eq_true_eq]; exact h3)).mpr ⟨Nat.zero_le _, fun z hz => ix_t (i := 3) rfl ?_⟩
            have hs0 : Sub μ (updM μ z (.lst [])) := sub_upd hz
            refine ll k r z (.tup axs) none _ _ _ _ axs [] none (updM μ z (.lst [])) (fun w hw => (ha w hw).sub hs0) updM_same (by rw [List.length_nil]; omega) (fun xs x2 μ1 exs hx hz1 k1 => ?_) fun μ1 hA k1 => ?_
            · subst exs
              rw [List.nil_append] at hz1
              have hxl : xs.length ≤ 40 := by rw [List.length_map] at h3; omega
              have s1 : Sub μ μ1 := kp_sub hz hs0 k1
              simp only [dSs, dS, dE, dA, dT, dAnds, dOrs, dTAnds, dTOrs, dIfs, dO, dG, dGs, dI, lenGs, sSeq, sIf, sRet, sRetN, sAsg, sDrop, sNext, sPar, sPar3, sBreak, sCont, eVar, eC, eOp, eUn, eChain, eAnd, eOr, eNot, eIte, aNil, aCons, eTup, eLst, eCall, eCB, tVal, tAndM, tOrM, tNotM, eSl, pSome, pNone, eDk0, eDt0, eDkc, gNm, gTp, gNl, gCn, wipeM, List.map_cons, List.map_nil, le_ii, lt_ii, gt_ii, ge_ii, add_ii, sub_ii, iadd_ii, neg_i, len_t, int_i, abs_i, List.getElem?_cons_zero, List.getElem?_cons_succ, List.set_cons_zero, List.set_cons_succ, List.length_cons, List.length_nil, Option.some.injEq, W.bl.injEq, W.int.injEq, W.str.injEq, W.tup.injEq, exists_eq_left', exists_eq_left, ↓reduceIte, Bool.not_true, Bool.not_false, Bool.false_eq_true, if_true, if_false, tb_bop0, tb_bop1, tb_bop2, tb_bop3, tb_bop4, tb_bop5, tb_bop6, tb_aug0, tb_aug1, tb_cop0, tb_cop1, tb_cop2, tb_cop3, tb_cop4, tb_cop5, tb_cop6, tb_cop7, tb_cop8, tb_cop9, tb_cop10, tb_cop11, tb_cop12, tb_ix0, tb_ix1, tb_set0, tb_set1, tb_set2, tb_bc0, tb_bc1, tb_bc2, tb_bc3, tb_bc4, tb_bc5, tb_bc6, tb_bc7, tb_bc8, tb_bc9, tb_bc10, tb_bc11, tb_bc12, tb_bc13, tb_bc14, tb_bc15, tb_bc16, tb_bc17, tb_bc18, tb_lf0, tb_lf1, tb_lf2, tb_lf3, tb_lf4, tb_lf5, tb_lf6, tb_bm0, tb_bm1, tb_bm2, tb_bm3, tb_bm4, tb_it0, tb_it1, tb_it2, tb_it3, tb_it4, tb_spc0, tb_spc1, tb_spc2, lb_bops, lb_augs, lb_cops, lb_ixs, lb_sets, lb_bcs, lb_lfs, lb_bms, lb_its, lb_spcs, lb_cst0, lb_cst1, lb_cst2, lb_cst3, lb_cst4, lb_cst5, lb_cst6, lb_clsA0, lb_clsI0, eLcI, iFn]
              refine ix_t (i := 3) rfl ?_
              simp only [len_t]
              refine ⟨_, rfl, by omega, by rw [List.length_map]; omega, ?_⟩
              rw [Int.toNat_natCast, List.length_map]
              refine loopC_pure (fun u => inPre (xs.map axW) (intW u)) id trivial _ _ (fun u hu Q' q => ?_) (fun u hu _ Q' q => ?_) (le_line (by rw [List.length_nil, rng_len]; omega)) ?_
              · obtain ⟨j, hj, rfl⟩ := rng_mem hu
                have ej : (xs.map axW)[j]? = some (axW xs[j]) := by rw [List.getElem?_map, List.getElem?_eq_getElem hj]; rfl
                simp only [dSs, dS, dE, dA, dT, dAnds, dOrs, dTAnds, dTOrs, dIfs, dO, dG, dGs, dI, lenGs, sSeq, sIf, sRet, sRetN, sAsg, sDrop, sNext, sPar, sPar3, sBreak, sCont, eVar, eC, eOp, eUn, eChain, eAnd, eOr, eNot, eIte, aNil, aCons, eTup, eLst, eCall, eCB, tVal, tAndM, tOrM, tNotM, eSl, pSome, pNone, eDk0, eDt0, eDkc, gNm, gTp, gNl, gCn, wipeM, List.map_cons, List.map_nil, le_ii, lt_ii, gt_ii, ge_ii, add_ii, sub_ii, iadd_ii, neg_i, len_t, int_i, abs_i, List.getElem?_cons_zero, List.getElem?_cons_succ, List.set_cons_zero, List.set_cons_succ, List.length_cons, List.length_nil, Option.some.injEq, W.bl.injEq, W.int.injEq, W.str.injEq, W.tup.injEq, exists_eq_left', exists_eq_left, ↓reduceIte, Bool.not_true, Bool.not_false, Bool.false_eq_true, if_true, if_false, tb_bop0, tb_bop1, tb_bop2, tb_bop3, tb_bop4, tb_bop5, tb_bop6, tb_aug0, tb_aug1, tb_cop0, tb_cop1, tb_cop2, tb_cop3, tb_cop4, tb_cop5, tb_cop6, tb_cop7, tb_cop8, tb_cop9, tb_cop10, tb_cop11, tb_cop12, tb_ix0, tb_ix1, tb_set0, tb_set1, tb_set2, tb_bc0, tb_bc1, tb_bc2, tb_bc3, tb_bc4, tb_bc5, tb_bc6, tb_bc7, tb_bc8, tb_bc9, tb_bc10, tb_bc11, tb_bc12, tb_bc13, tb_bc14, tb_bc15, tb_bc16, tb_bc17, tb_bc18, tb_lf0, tb_lf1, tb_lf2, tb_lf3, tb_lf4, tb_lf5, tb_lf6, tb_bm0, tb_bm1, tb_bm2, tb_bm3, tb_bm4, tb_it0, tb_it1, tb_it2, tb_it3, tb_it4, tb_spc0, tb_spc1, tb_spc2, lb_bops, lb_augs, lb_cops, lb_ixs, lb_sets, lb_bcs, lb_lfs, lb_bms, lb_its, lb_spcs, lb_cst0, lb_cst1, lb_cst2, lb_cst3, lb_cst4, lb_cst5, lb_cst6, lb_clsA0, lb_clsI0, cut_to]
                refine ix_t (i := 3) rfl (ix_t (i := j) ej (ix_t (i := 3) rfl ?_))
                dsimp only
                rw [← List.map_take]
                refine in_axs (hx _ (List.getElem_mem hj)) (fun y hy => hx y (List.mem_of_mem_take hy)) ?_ ⟨_, rfl, q⟩
                show inPre (xs.map axW) (j : Int) = true ↔ _
                rw [inPre_iff, ej, List.map_take]
                exact ⟨fun ⟨x, e, h⟩ => by cases e; exact h, fun h => ⟨_, rfl, h⟩⟩
              · simp only [dSs, dS, dE, dA, dT, dAnds, dOrs, dTAnds, dTOrs, dIfs, dO, dG, dGs, dI, lenGs, sSeq, sIf, sRet, sRetN, sAsg, sDrop, sNext, sPar, sPar3, sBreak, sCont, eVar, eC, eOp, eUn, eChain, eAnd, eOr, eNot, eIte, aNil, aCons, eTup, eLst, eCall, eCB, tVal, tAndM, tOrM, tNotM, eSl, pSome, pNone, eDk0, eDt0, eDkc, gNm, gTp, gNl, gCn, wipeM, List.map_cons, List.map_nil, le_ii, lt_ii, gt_ii, ge_ii, add_ii, sub_ii, iadd_ii, neg_i, len_t, int_i, abs_i, List.getElem?_cons_zero, List.getElem?_cons_succ, List.set_cons_zero, List.set_cons_succ, List.length_cons, List.length_nil, Option.some.injEq, W.bl.injEq, W.int.injEq, W.str.injEq, W.tup.injEq, exists_eq_left', exists_eq_left, ↓reduceIte, Bool.not_true, Bool.not_false, Bool.false_eq_true, if_true, if_false, tb_bop0, tb_bop1, tb_bop2, tb_bop3, tb_bop4, tb_bop5, tb_bop6, tb_aug0, tb_aug1, tb_cop0, tb_cop1, tb_cop2, tb_cop3, tb_cop4, tb_cop5, tb_cop6, tb_cop7, tb_cop8, tb_cop9, tb_cop10, tb_cop11, tb_cop12, tb_ix0, tb_ix1, tb_set0, tb_set1, tb_set2, tb_bc0, tb_bc1, tb_bc2, tb_bc3, tb_bc4, tb_bc5, tb_bc6, tb_bc7, tb_bc8, tb_bc9, tb_bc10, tb_bc11, tb_bc12, tb_bc13, tb_bc14, tb_bc15, tb_bc16, tb_bc17, tb_bc18, tb_lf0, tb_lf1, tb_lf2, tb_lf3, tb_lf4, tb_lf5, tb_lf6, tb_bm0, tb_bm1, tb_bm2, tb_bm3, tb_bm4, tb_it0, tb_it1, tb_it2, tb_it3, tb_it4, tb_spc0, tb_spc1, tb_spc2, lb_bops, lb_augs, lb_cops, lb_ixs, lb_sets, lb_bcs, lb_lfs, lb_bms, lb_its, lb_spcs, lb_cst0, lb_cst1, lb_cst2, lb_cst3, lb_cst4, lb_cst5, lb_cst6, lb_clsA0, lb_clsI0]
                exact q
              · rw [List.nil_append, List.map_id]
                have e : (rangeW 0 xs.length).filter (fun u => inPre (xs.map axW) (intW u)) = (((List.range xs.length).map fun j : Nat => (j : Int)).filter (inPre (xs.map axW))).map W.int := by
                  rw [rng_map, List.filter_map, List.filter_map, List.map_map]
                  rfl
                rw [e]
                intro g hg
                refine ⟨Nat.zero_le _, fun g2 hg2 => ?_⟩
                have ngg : g ≠ g2 := fun z => by subst z; rw [updM_same] at hg2; cases hg2
                generalize hL0 : ((List.range xs.length).map fun j : Nat => (j : Int)).filter (inPre (xs.map axW)) = L0 at hg2 ⊢
                obtain ⟨i1, i2⟩ := sh_ints L0
                refine eq_nil (by rw [updM_ne ngg, updM_same]) (dats_ints L0) (sh_tup i1 (Nat.le_of_eq i2) (by decide)) updM_same ⟨_, rfl, ?_⟩
                rw [List.isEmpty_map]
                have s2 : Sub μ1 (updM (updM μ1 g (.lst (L0.map W.int))) g2 (.lst [])) := fun a o e => sub_upd hg2 a o (sub_upd hg a o e)
                have hnd : L0.isEmpty = true ↔ (xs.map axW).Nodup := by
                  rw [List.isEmpty_iff, ← hL0, List.filter_eq_nil_iff, nodup_take]
                  constructor
                  · intro h j x e z
                    have hj := (List.getElem?_eq_some_iff.mp e).1
                    rw [List.length_map] at hj
                    refine h (j : Int) (List.mem_map.mpr ⟨j, List.mem_range.mpr hj, rfl⟩) ?_
                    exact inPre_iff.mpr ⟨x, e, z⟩
                  · intro h u hu z
                    obtain ⟨j, hj, rfl⟩ := List.mem_map.mp hu
                    obtain ⟨x, e, z⟩ := inPre_iff.mp z
                    exact h j x e z
                by_cases h5 : (xs.map axW).Nodup
                · rw [hnd.mpr h5, if_pos rfl]
                  refine ⟨_, .inl (s2 _ _ hz1), _, rfl, ?_⟩
                  rw [tup_sum]
                  simp only [le_ii]
                  by_cases h6 : totW (xs.map axW) ≤ 400
                  · rw [decide_eq_true h6]
                    rw [show isTm (.tup [.str "terms", .int k, .int r, .tup (xs.map axW)]) = true from isTm_t ⟨k, r, xs, rfl, k1', k2, r1, r2, hxl, hx, h5, h6⟩] at hq
                    exact Dn.sub (fun a o e => s2 a o (s1 a o e)) hq
                  · rw [decide_eq_false h6]
                    exact no (fun z => by
                      obtain ⟨k', r', xs', _, _, e, h⟩ := tm_parts z
                      injection e with e
                      rw [e] at h6
                      exact h6 h.tot) _ (fun a o e => s2 a o (s1 a o e))
                · have h5' : L0.isEmpty = false := by
                    cases hh : L0.isEmpty with
                    | false => rfl
                    | true => exact absurd (hnd.mp hh) h5
                  rw [h5', if_neg (by decide)]
                  exact no (fun z => by
                    obtain ⟨k', r', xs', _, _, e, h⟩ := tm_parts z
                    injection e with e
                    rw [e] at h5
                    exact h5 h.nd) _ (fun a o e => s2 a o (s1 a o e))
            · exact no (fun z' => by
                obtain ⟨k', r', xs, e1, e2, e, h⟩ := tm_parts z'
                injection e with e
                injection e1 with e1
                injection e2 with e2
                subst e1 e2
                rw [e, axs_map h.ax] at hA
                cases hA) _ (kp_sub hz hs0 k1)
        | _ => exact (if_pos rfl).mpr (no (fun z => by
            obtain ⟨k', r', xs, _, _, e, h⟩ := tm_parts z
            cases e) μ Sub.refl)
      · have h2' : isInt b 0 6 = false := by simpa using h2
        rw [h2', if_pos (by decide)]
        exact no (fun z => by
          obtain ⟨k', r', xs, _, e, _, h⟩ := tm_parts z
          subst e
          exact h2 (isInt_in h.r1 h.r2)) μ Sub.refl
    · have h1' : isInt a 1 16 = false := by simpa using h1
      rw [h1', if_pos (by decide)]
      exact no (fun z => by
        obtain ⟨k', r', xs, e, _, _, h⟩ := tm_parts z
        subst e
        exact h1 (isInt_in h.k1 h.k2)) μ Sub.refl
  · have hf' : (decide (fst v = "terms") && decide (fnum v = 4)) = false := by simpa using hf
    rw [hf', if_pos (by decide)]
    rw [isTm_f fun z => hf (tm_form z)] at hq
    exact Dn.of hq
end K01
set_option Elab.async false
set_option autoImplicit false
set_option linter.all false
set_option maxRecDepth 100000
namespace K01
open PySem PySem.Spec PyProof.Rows L2 MP
/-! ### the bag -/
def BgX (p : Addr) (μ : Mem) : Prop := ∃ a b c d : Int, μ p = some (.lst [.int a, .int b, .int c, .int d])
structure Bx (p : Addr) (μ μ' : Mem) : Prop where
  tp : BgX p μ'
  kp : ∀ a o, a ≠ p → μ a = some o → μ' a = some o
theorem Bx.refl {p : Addr} {μ : Mem} (h : BgX p μ) : Bx p μ μ := ⟨h, fun _ _ _ e => e⟩
theorem Bx.trans {p : Addr} {μ μ1 μ2 : Mem} (a : Bx p μ μ1) (b : Bx p μ1 μ2) : Bx p μ μ2 := ⟨b.tp, fun x o n1 e => b.kp x o n1 (a.kp x o n1 e)⟩
theorem BgX.fresh {p r : Addr} {μ : Mem} (h : BgX p μ) (hr : μ r = none) : r ≠ p := by
  obtain ⟨a, b, c, d, h1⟩ := h
  intro e
  subst e; rw [hr] at h1; cases h1
theorem BgX.other {p r : Addr} {μ : Mem} {o : MO} (h : BgX p μ) (n1 : r ≠ p) : BgX p (updM μ r o) := by
  obtain ⟨a, b, c, d, h1⟩ := h
  exact ⟨a, b, c, d, by rw [updM_ne n1.symm]; exact h1⟩
theorem Bx.new {p r : Addr} {μ : Mem} {o : MO} (h : BgX p μ) (hr : μ r = none) : Bx p μ (updM μ r o) := ⟨h.other (h.fresh hr), fun a o' _ e => by
  have n3 : a ≠ r := fun z => by subst z; rw [hr] at e; cases e
  rw [updM_ne n3]
  exact e⟩
theorem Bx.sub {p : Addr} {μ μ1 μ2 : Mem} (h : Bx p μ μ1) (s : Sub μ1 μ2) : Bx p μ μ2 := by
  obtain ⟨a, b, c, d, h1⟩ := h.tp
  exact ⟨⟨a, b, c, d, s _ _ h1⟩, fun a o n e => s _ _ (h.kp a o n e)⟩
def Dr (S : MSp) (ws : List W) (p : Addr) (μ : Mem) (R : W → Prop) : Prop := Gv S ws μ fun x μ' => R x ∧ Bx p μ μ'
theorem o_geii {i j : Int} {μ : Mem} {Q : MQ} (q : Q (.bl (decide (j ≤ i))) μ) : oGe (.int i) (.int j) μ Q := q
theorem o_subi {i j : Int} {μ : Mem} {Q : MQ} (q : Q (.int (i - j)) μ) : oSub (.int i) (.int j) μ Q := q
theorem o_inti {i : Int} {μ : Mem} {Q : MQ} (q : Q (.int i) μ) : oIntOf [.int i] μ Q := q
theorem cpow18 : CPow 10 18 := by unfold CPow; decide +kernel
theorem draw_tail {c : List Addr} {n : Nat} {p : Addr} {m a b cc d : Int} {s r : Option W} {μ : Mem} {Q : MQ} {E : MXK} (h0 : 0 < m) (h1 : m < 1073741824) (e : μ p = some (.lst [.int a, .int b, .int cc, .int d]))
    (hq : ∀ v μ', 0 ≤ v → v < m → BgX p μ' → (∀ x, x ≠ p → μ' x = μ x) → Q (.int v) μ') :
    dSs (libA c) (Gam (libA c) D n) (dropS 2 t_law_draw) [some (.ref p), some (.int m), s, r] μ { nx := fun _ μ1 => Dn Q .non μ1, rt := Dn Q } (fun x _ μ1 => Dn E x μ1) := by
  simp only [t_law_draw, dropS, dSs, dS, dE, dA, dT, dAnds, dOrs, dTAnds, dTOrs, dIfs, dO, dG, dGs, dI, lenGs, sSeq, sIf, sRet, sRetN, sAsg, sDrop, sNext, sPar, sPar3, sBreak, sCont, eVar, eC, eOp, eUn, eChain, eAnd, eOr, eNot, eIte, aNil, aCons, eTup, eLst, eCall, eCB, tVal, tAndM, tOrM, tNotM, eSl, pSome, pNone, eDk0, eDt0, eDkc, gNm, gTp, gNl, gCn, wipeM, List.map_cons, List.map_nil, le_ii, lt_ii, gt_ii, ge_ii, add_ii, sub_ii, iadd_ii, neg_i, len_t, int_i, abs_i, List.getElem?_cons_zero, List.getElem?_cons_succ, List.set_cons_zero, List.set_cons_succ, List.length_cons, List.length_nil, Option.some.injEq, W.bl.injEq, W.int.injEq, W.str.injEq, W.tup.injEq, exists_eq_left', exists_eq_left, ↓reduceIte, Bool.not_true, Bool.not_false, Bool.false_eq_true, if_true, if_false, tb_bop0, tb_bop1, tb_bop2, tb_bop3, tb_bop4, tb_bop5, tb_bop6, tb_aug0, tb_aug1, tb_cop0, tb_cop1, tb_cop2, tb_cop3, tb_cop4, tb_cop5, tb_cop6, tb_cop7, tb_cop8, tb_cop9, tb_cop10, tb_cop11, tb_cop12, tb_ix0, tb_ix1, tb_set0, tb_set1, tb_set2, tb_bc0, tb_bc1, tb_bc2, tb_bc3, tb_bc4, tb_bc5, tb_bc6, tb_bc7, tb_bc8, tb_bc9, tb_bc10, tb_bc11, tb_bc12, tb_bc13, tb_bc14, tb_bc15, tb_bc16, tb_bc17, tb_bc18, tb_lf0, tb_lf1, tb_lf2, tb_lf3, tb_lf4, tb_lf5, tb_lf6, tb_bm0, tb_bm1, tb_bm2, tb_bm3, tb_bm4, tb_it0, tb_it1, tb_it2, tb_it3, tb_it4, tb_spc0, tb_spc1, tb_spc2, lb_bops, lb_augs, lb_cops, lb_ixs, lb_sets, lb_bcs, lb_lfs, lb_bms, lb_its, lb_spcs, lb_cst0, lb_cst1, lb_cst2, lb_cst3, lb_cst4, lb_cst5, lb_cst6, lb_clsA0, lb_clsI0, gSb]
  refine ix_r (i := 0) e rfl (o_divp h0 h1 (s_set (i := 0) e (by decide : 0 < 4) ?_))
  refine o_modp h0 (Dn.of (hq _ _ (mod_bd h0).1 (mod_bd h0).2 ⟨_, _, _, _, updM_same⟩ fun x hx => updM_ne hx))
theorem sp_law_draw {c : List Addr} {p : Addr} {n : Nat} {m : Int} {μ : Mem} (h0 : 0 < m) (h1 : m < 1073741824) (ht : BgX p μ) : Dr (Gm c (n + 1) j_law_draw) [.ref p, .int m] p μ (fun x => ∃ v, x = .int v ∧ 0 ≤ v ∧ v < m) := fun Q E hq => by
  refine ⟨rfl, ?_⟩
  show dSs _ _ t_law_draw [some (.ref p), some (.int m), none, none] μ _ _
  obtain ⟨a, b, cc, d, e1⟩ := ht
  have tail0 : ∀ (s r : Option W) (μ' : Mem) (a b cc d : Int), μ' p = some (.lst [.int a, .int b, .int cc, .int d]) → (∀ x, x ≠ p → μ' x = μ x) → dSs (libA c) (Gam (libA c) D n) (dropS 2 t_law_draw) [some (.ref p), some (.int m), s, r] μ' { nx := fun _ μ1 => Dn Q .non μ1, rt := Dn Q } (fun x _ μ1 => Dn E x μ1) := fun s r μ' a b cc d e k => draw_tail h0 h1 e fun v μ2 v0 v1 t k2 => hq _ _ ⟨⟨v, rfl, v0, v1⟩, t, fun x o hx ex => by rw [k2 x hx, k x hx]; exact ex⟩
  have tail := tail0
  simp only [t_law_draw, dropS, dSs, dS, dE, dA, dT, dAnds, dOrs, dTAnds, dTOrs, dIfs, dO, dG, dGs, dI, lenGs, sSeq, sIf, sRet, sRetN, sAsg, sDrop, sNext, sPar, sPar3, sBreak, sCont, eVar, eC, eOp, eUn, eChain, eAnd, eOr, eNot, eIte, aNil, aCons, eTup, eLst, eCall, eCB, tVal, tAndM, tOrM, tNotM, eSl, pSome, pNone, eDk0, eDt0, eDkc, gNm, gTp, gNl, gCn, wipeM, List.map_cons, List.map_nil, le_ii, lt_ii, gt_ii, ge_ii, add_ii, sub_ii, iadd_ii, neg_i, len_t, int_i, abs_i, List.getElem?_cons_zero, List.getElem?_cons_succ, List.set_cons_zero, List.set_cons_succ, List.length_cons, List.length_nil, Option.some.injEq, W.bl.injEq, W.int.injEq, W.str.injEq, W.tup.injEq, exists_eq_left', exists_eq_left, ↓reduceIte, Bool.not_true, Bool.not_false, Bool.false_eq_true, if_true, if_false, tb_bop0, tb_bop1, tb_bop2, tb_bop3, tb_bop4, tb_bop5, tb_bop6, tb_aug0, tb_aug1, tb_cop0, tb_cop1, tb_cop2, tb_cop3, tb_cop4, tb_cop5, tb_cop6, tb_cop7, tb_cop8, tb_cop9, tb_cop10, tb_cop11, tb_cop12, tb_ix0, tb_ix1, tb_set0, tb_set1, tb_set2, tb_bc0, tb_bc1, tb_bc2, tb_bc3, tb_bc4, tb_bc5, tb_bc6, tb_bc7, tb_bc8, tb_bc9, tb_bc10, tb_bc11, tb_bc12, tb_bc13, tb_bc14, tb_bc15, tb_bc16, tb_bc17, tb_bc18, tb_lf0, tb_lf1, tb_lf2, tb_lf3, tb_lf4, tb_lf5, tb_lf6, tb_bm0, tb_bm1, tb_bm2, tb_bm3, tb_bm4, tb_it0, tb_it1, tb_it2, tb_it3, tb_it4, tb_spc0, tb_spc1, tb_spc2, lb_bops, lb_augs, lb_cops, lb_ixs, lb_sets, lb_bcs, lb_lfs, lb_bms, lb_its, lb_spcs, lb_cst0, lb_cst1, lb_cst2, lb_cst3, lb_cst4, lb_cst5, lb_cst6, lb_clsA0, lb_clsI0, gSb] at tail ⊢
  refine (if_neg (by rw [decide_eq_true_eq]; omega)).mpr (ix_r (i := 0) e1 rfl (o_eqi ⟨_, rfl, ?_⟩))
  by_cases ha : a = 0
  · refine (if_pos (decide_eq_true ha)).mpr (ix_r (i := 2) e1 rfl (o_addi (s_set (i := 2) e1 (by decide : 2 < 4) ?_)))
    have e2 : (updM μ p (.lst ([W.int a, .int b, .int cc, .int d].set 2 (.int (cc + 1))))) p = some (.lst [.int a, .int b, .int (cc + 1), .int d]) := updM_same
    refine ix_r (i := 1) e2 rfl (o_mul_r (by decide) (by decide) (ix_r (i := 3) e2 rfl (o_mul_r (by decide) (by decide) (o_addi (ix_r (i := 2) e2 rfl (o_mul_r (by decide) (by decide) (o_addi (o_addi (o_inti (o_modp (by decide) ?_)))))))))) 
    generalize hs : (b * 48271 + d * 69621 + (cc + 1) * 16807 + 11).fmod 2147483647 = s
    have hs0 : 0 ≤ s ∧ s < 2147483647 := by rw [← hs]; exact mod_bd (by decide)
    refine o_mul_r (by decide) (by decide) (o_mul_r (by omega) (by omega) (ix_r (i := 3) e2 rfl (o_addi (o_inti (o_modp (by decide) (o_addi (s_set (i := 0) e2 (by decide : 0 < 4) ?_)))))))
    generalize hz : s * 2147483629 + (s * s + d).fmod 2147483629 = z
    rw [updM_updM]
    have e3 : (updM μ p (.lst ([W.int a, .int b, .int (cc + 1), .int d].set 0 (.int z)))) p = some (.lst [.int z, .int b, .int (cc + 1), .int d]) := updM_same
    have fin : ∀ (μ' : Mem) (z' : Int) (r : Option W), μ' p = some (.lst [.int z', .int b, .int (cc + 1), .int d]) → (∀ x, x ≠ p → μ' x = μ x) → sLst (.ref p) (.int 1) (.int s) μ' fun μ3 => dSs (libA c) (Gam (libA c) D n) (dropS 2 t_law_draw) [some (.ref p), some (.int m), some (.int s), r] μ3 { nx := fun _ μ1 => Dn Q .non μ1, rt := Dn Q } (fun x _ μ1 => Dn E x μ1) := fun μ' z' r e k =>
      s_set (i := 1) e (by decide : 1 < 4) (tail0 _ _ _ z' s (cc + 1) d updM_same fun x hx => (updM_ne hx).trans (k x hx))
    have k3 : ∀ x, x ≠ p → (updM μ p (.lst ([W.int a, .int b, .int (cc + 1), .int d].set 0 (.int z)))) x = μ x := fun x hx => updM_ne hx
    simp only [t_law_draw, dropS, dSs, dS, dE, dA, dT, dAnds, dOrs, dTAnds, dTOrs, dIfs, dO, dG, dGs, dI, lenGs, sSeq, sIf, sRet, sRetN, sAsg, sDrop, sNext, sPar, sPar3, sBreak, sCont, eVar, eC, eOp, eUn, eChain, eAnd, eOr, eNot, eIte, aNil, aCons, eTup, eLst, eCall, eCB, tVal, tAndM, tOrM, tNotM, eSl, pSome, pNone, eDk0, eDt0, eDkc, gNm, gTp, gNl, gCn, wipeM, List.map_cons, List.map_nil, le_ii, lt_ii, gt_ii, ge_ii, add_ii, sub_ii, iadd_ii, neg_i, len_t, int_i, abs_i, List.getElem?_cons_zero, List.getElem?_cons_succ, List.set_cons_zero, List.set_cons_succ, List.length_cons, List.length_nil, Option.some.injEq, W.bl.injEq, W.int.injEq, W.str.injEq, W.tup.injEq, exists_eq_left', exists_eq_left, ↓reduceIte, Bool.not_true, Bool.not_false, Bool.false_eq_true, if_true, if_false, tb_bop0, tb_bop1, tb_bop2, tb_bop3, tb_bop4, tb_bop5, tb_bop6, tb_aug0, tb_aug1, tb_cop0, tb_cop1, tb_cop2, tb_cop3, tb_cop4, tb_cop5, tb_cop6, tb_cop7, tb_cop8, tb_cop9, tb_cop10, tb_cop11, tb_cop12, tb_ix0, tb_ix1, tb_set0, tb_set1, tb_set2, tb_bc0, tb_bc1, tb_bc2, tb_bc3, tb_bc4, tb_bc5, tb_bc6, tb_bc7, tb_bc8, tb_bc9, tb_bc10, tb_bc11, tb_bc12, tb_bc13, tb_bc14, tb_bc15, tb_bc16, tb_bc17, tb_bc18, tb_lf0, tb_lf1, tb_lf2, tb_lf3, tb_lf4, tb_lf5, tb_lf6, tb_bm0, tb_bm1, tb_bm2, tb_bm3, tb_bm4, tb_it0, tb_it1, tb_it2, tb_it3, tb_it4, tb_spc0, tb_spc1, tb_spc2, lb_bops, lb_augs, lb_cops, lb_ixs, lb_sets, lb_bcs, lb_lfs, lb_bms, lb_its, lb_spcs, lb_cst0, lb_cst1, lb_cst2, lb_cst3, lb_cst4, lb_cst5, lb_cst6, lb_clsA0, lb_clsI0, gSb] at fin
    refine ix_r (i := 2) e3 rfl (o_eqi ⟨_, rfl, ?_⟩)
    by_cases hc : cc + 1 = 1
    · refine (if_pos (decide_eq_true hc)).mpr (ix_r (i := 3) e3 rfl ⟨cpow18, o_geii ⟨_, rfl, ?_⟩⟩)
      by_cases hd : (10 : Int) ^ (18 : Int).toNat ≤ d
      · refine (if_pos (decide_eq_true hd)).mpr (ix_r (i := 3) e3 rfl (s_set (i := 0) e3 (by decide : 0 < 4) ?_))
        exact fin _ d none updM_same fun x hx => (updM_ne hx).trans (k3 x hx)
      · exact (if_neg (by rw [decide_eq_true_eq]; exact hd)).mpr (fin _ z none e3 k3)
    · exact (if_neg (by rw [decide_eq_true_eq]; exact hc)).mpr (fin _ z none e3 k3)
  · exact (if_neg (by rw [decide_eq_true_eq]; exact ha)).mpr (tail none none μ a b cc d e1 fun _ _ => rfl)
end K01
set_option Elab.async false
set_option autoImplicit false
set_option linter.all false
set_option maxRecDepth 100000
namespace K01
open PySem PySem.Spec PyProof.Rows L2 MP
theorem o_mul_l {i j : Int} {μ : Mem} {Q : MQ} (h1 : -(2 ^ 64) < i) (h2 : i < 2 ^ 64) (q : Q (.int (i * j)) μ) : oMul (.int i) (.int j) μ Q := ⟨.inl (.inl ⟨h1, h2⟩), q⟩
theorem len_rl {xs : List W} {μ : Mem} {Q : MQ} (q : Q (.int xs.length) μ) : oLen [.rl xs] μ Q := q
theorem ix_rl {xs : List W} {i : Nat} {w : W} {μ : Mem} {Q : MQ} (h : xs[i]? = some w) (q : Q w μ) : oIx (.rl xs) (.int i) μ Q := ⟨w, by
  unfold atI ixN
  have hl : i < xs.length := (List.getElem?_eq_some_iff.mp h).1
  rw [if_pos (Int.natCast_nonneg i), if_pos (by omega)]
  exact h, q⟩
theorem sp_law_bag {c : List Addr} {n : Nat} {ns : List Int} {k : Nat} {μ : Mem} : Gv (Gm c (n + 1) j_law_bag) [.rl (ns.map W.int), .int k] μ (fun x μ' => ∃ p, x = .ref p ∧ BgX p μ' ∧ μ p = none ∧ Sub μ μ') := fun Q E hq => by
  refine ⟨rfl, ?_⟩
  show dSs _ _ t_law_bag [some (.rl (ns.map W.int)), some (.int k), none] μ _ _
  simp only [t_law_bag, dSs, dS, dE, dA, dT, dAnds, dOrs, dTAnds, dTOrs, dIfs, dO, dG, dGs, dI, lenGs, sSeq, sIf, sRet, sRetN, sAsg, sDrop, sNext, sPar, sPar3, sBreak, sCont, eVar, eC, eOp, eUn, eChain, eAnd, eOr, eNot, eIte, aNil, aCons, eTup, eLst, eCall, eCB, tVal, tAndM, tOrM, tNotM, eSl, pSome, pNone, eDk0, eDt0, eDkc, gNm, gTp, gNl, gCn, wipeM, List.map_cons, List.map_nil, le_ii, lt_ii, gt_ii, ge_ii, add_ii, sub_ii, iadd_ii, neg_i, len_t, int_i, abs_i, List.getElem?_cons_zero, List.getElem?_cons_succ, List.set_cons_zero, List.set_cons_succ, List.length_cons, List.length_nil, Option.some.injEq, W.bl.injEq, W.int.injEq, W.str.injEq, W.tup.injEq, exists_eq_left', exists_eq_left, ↓reduceIte, Bool.not_true, Bool.not_false, Bool.false_eq_true, if_true, if_false, tb_bop0, tb_bop1, tb_bop2, tb_bop3, tb_bop4, tb_bop5, tb_bop6, tb_aug0, tb_aug1, tb_cop0, tb_cop1, tb_cop2, tb_cop3, tb_cop4, tb_cop5, tb_cop6, tb_cop7, tb_cop8, tb_cop9, tb_cop10, tb_cop11, tb_cop12, tb_ix0, tb_ix1, tb_set0, tb_set1, tb_set2, tb_bc0, tb_bc1, tb_bc2, tb_bc3, tb_bc4, tb_bc5, tb_bc6, tb_bc7, tb_bc8, tb_bc9, tb_bc10, tb_bc11, tb_bc12, tb_bc13, tb_bc14, tb_bc15, tb_bc16, tb_bc17, tb_bc18, tb_lf0, tb_lf1, tb_lf2, tb_lf3, tb_lf4, tb_lf5, tb_lf6, tb_bm0, tb_bm1, tb_bm2, tb_bm3, tb_bm4, tb_it0, tb_it1, tb_it2, tb_it3, tb_it4, tb_spc0, tb_spc1, tb_spc2, lb_bops, lb_augs, lb_cops, lb_ixs, lb_sets, lb_bcs, lb_lfs, lb_bms, lb_its, lb_spcs, lb_cst0, lb_cst1, lb_cst2, lb_cst3, lb_cst4, lb_cst5, lb_cst6, lb_clsA0, lb_clsI0]
  refine len_rl ⟨_, rfl, ?_⟩
  have fin : ∀ v : Int, oMul (.int 48611) (.int k) μ (fun x μ1 => oAdd (.int 2237) x μ1 (fun x μ2 => 4 ≤ sizeLine ∧ ∀ p, μ2 p = none → Dn Q (.ref p) (updM μ2 p (.lst [.int 0, x, .int 0, .int v])))) := fun v =>
    o_mul_l (by decide) (by decide) (o_addi ⟨by decide, fun p hp => Dn.of (hq _ _ ⟨p, rfl, ⟨_, _, _, _, updM_same⟩, hp, sub_upd hp⟩)⟩)
  by_cases h : (k : Int) < ((ns.map W.int).length : Int)
  · have hk : k < ns.length := by rw [List.length_map] at h; omega
    exact (if_pos (decide_eq_true h)).mpr (ix_rl (i := k) (w := .int ns[k]) (by rw [List.getElem?_map, List.getElem?_eq_getElem hk]; rfl) (o_inti (fin _)))
  · exact (if_neg (by rw [decide_eq_true_eq]; exact h)).mpr (fin 0)
theorem sp_law_one {c : List Addr} {p a : Addr} {n : Nat} {xs : List W} {μ : Mem} (ha : μ a = some (.lst xs)) (n1 : a ≠ p) (h0 : 0 < xs.length) (h1 : xs.length ≤ 1000) (ht : BgX p μ) : Dr (Gm c (n + 2) j_law_one) [.ref p, .ref a] p μ (fun x => x ∈ xs) := fun Q E hq => by
  refine ⟨rfl, ?_⟩
  show dSs _ _ t_law_one [some (.ref p), some (.ref a)] μ _ _
  simp only [t_law_one, dSs, dS, dE, dA, dT, dAnds, dOrs, dTAnds, dTOrs, dIfs, dO, dG, dGs, dI, lenGs, sSeq, sIf, sRet, sRetN, sAsg, sDrop, sNext, sPar, sPar3, sBreak, sCont, eVar, eC, eOp, eUn, eChain, eAnd, eOr, eNot, eIte, aNil, aCons, eTup, eLst, eCall, eCB, tVal, tAndM, tOrM, tNotM, eSl, pSome, pNone, eDk0, eDt0, eDkc, gNm, gTp, gNl, gCn, wipeM, List.map_cons, List.map_nil, le_ii, lt_ii, gt_ii, ge_ii, add_ii, sub_ii, iadd_ii, neg_i, len_t, int_i, abs_i, List.getElem?_cons_zero, List.getElem?_cons_succ, List.set_cons_zero, List.set_cons_succ, List.length_cons, List.length_nil, Option.some.injEq, W.bl.injEq, W.int.injEq, W.str.injEq, W.tup.injEq, exists_eq_left', exists_eq_left, ↓reduceIte, Bool.not_true, Bool.not_false, Bool.false_eq_true, if_true, if_false, tb_bop0, tb_bop1, tb_bop2, tb_bop3, tb_bop4, tb_bop5, tb_bop6, tb_aug0, tb_aug1, tb_cop0, tb_cop1, tb_cop2, tb_cop3, tb_cop4, tb_cop5, tb_cop6, tb_cop7, tb_cop8, tb_cop9, tb_cop10, tb_cop11, tb_cop12, tb_ix0, tb_ix1, tb_set0, tb_set1, tb_set2, tb_bc0, tb_bc1, tb_bc2, tb_bc3, tb_bc4, tb_bc5, tb_bc6, tb_bc7, tb_bc8, tb_bc9, tb_bc10, tb_bc11, tb_bc12, tb_bc13, tb_bc14, tb_bc15, tb_bc16, tb_bc17, tb_bc18, tb_lf0, tb_lf1, tb_lf2, tb_lf3, tb_lf4, tb_lf5, tb_lf6, tb_bm0, tb_bm1, tb_bm2, tb_bm3, tb_bm4, tb_it0, tb_it1, tb_it2, tb_it3, tb_it4, tb_spc0, tb_spc1, tb_spc2, lb_bops, lb_augs, lb_cops, lb_ixs, lb_sets, lb_bcs, lb_lfs, lb_bms, lb_its, lb_spcs, lb_cst0, lb_cst1, lb_cst2, lb_cst3, lb_cst4, lb_cst5, lb_cst6, lb_clsA0, lb_clsI0]
  refine len_r ha (call_gv (sp_law_draw (by omega) (by omega) ht) fun x μ' hx => ?_)
  obtain ⟨⟨v, rfl, v0, v1⟩, ex⟩ := hx
  obtain ⟨j, rfl⟩ := Int.eq_ofNat_of_zero_le v0
  have hj : j < xs.length := by omega
  exact ix_r (i := j) (w := xs[j]) (ex.kp _ _ n1 ha) (List.getElem?_eq_getElem hj) (Dn.of (hq _ _ ⟨List.getElem_mem hj, ex⟩))
/-! ### drawn terms -/
def bnd : Nat → Nat
  | 0 => 1
  | l + 1 => 2 * bnd l + 1
theorem bnd_pos : ∀ l, 1 ≤ bnd l
  | 0 => Nat.le_refl _
  | l + 1 => by show 1 ≤ 2 * bnd l + 1; omega
def Drawn (k r : Int) (l : Nat) (w : W) : Prop := ∃ t, w = toW t ∧ wfT k r t ∧ tsz t ≤ bnd l ∧ tdp t ≤ l + 1
theorem term_leaf {c : List Addr} {p : Addr} {k r : Int} {l n : Nat} {r1 li x4 : Option W} {μ : Mem} {Q : MQ} {E : MXK} (hk : 0 < k) (hk2 : k ≤ 1000) (ht : BgX p μ) (hq : ∀ x μ', Drawn k r l x → Bx p μ μ' → Q x μ') :
    dSs (libA c) (Gam (libA c) D (n + 2)) (thenS (dropS 1 t_law_term)) [some (.ref p), some (.int k), r1, li, x4] μ { nx := fun _ μ1 => Dn Q .non μ1, rt := Dn Q } (fun x _ μ1 => Dn E x μ1) := by
  simp only [t_law_term, thenS, dropS, dSs, dS, dE, dA, dT, dAnds, dOrs, dTAnds, dTOrs, dIfs, dO, dG, dGs, dI, lenGs, sSeq, sIf, sRet, sRetN, sAsg, sDrop, sNext, sPar, sPar3, sBreak, sCont, eVar, eC, eOp, eUn, eChain, eAnd, eOr, eNot, eIte, aNil, aCons, eTup, eLst, eCall, eCB, tVal, tAndM, tOrM, tNotM, eSl, pSome, pNone, eDk0, eDt0, eDkc, gNm, gTp, gNl, gCn, wipeM, List.map_cons, List.map_nil, le_ii, lt_ii, gt_ii, ge_ii, add_ii, sub_ii, iadd_ii, neg_i, len_t, int_i, abs_i, List.getElem?_cons_zero, List.getElem?_cons_succ, List.set_cons_zero, List.set_cons_succ, List.length_cons, List.length_nil, Option.some.injEq, W.bl.injEq, W.int.injEq, W.str.injEq, W.tup.injEq, exists_eq_left', exists_eq_left, ↓reduceIte, Bool.not_true, Bool.not_false, Bool.false_eq_true, if_true, if_false, tb_bop0, tb_bop1, tb_bop2, tb_bop3, tb_bop4, tb_bop5, tb_bop6, tb_aug0, tb_aug1, tb_cop0, tb_cop1, tb_cop2, tb_cop3, tb_cop4, tb_cop5, tb_cop6, tb_cop7, tb_cop8, tb_cop9, tb_cop10, tb_cop11, tb_cop12, tb_ix0, tb_ix1, tb_set0, tb_set1, tb_set2, tb_bc0, tb_bc1, tb_bc2, tb_bc3, tb_bc4, tb_bc5, tb_bc6, tb_bc7, tb_bc8, tb_bc9, tb_bc10, tb_bc11, tb_bc12, tb_bc13, tb_bc14, tb_bc15, tb_bc16, tb_bc17, tb_bc18, tb_lf0, tb_lf1, tb_lf2, tb_lf3, tb_lf4, tb_lf5, tb_lf6, tb_bm0, tb_bm1, tb_bm2, tb_bm3, tb_bm4, tb_it0, tb_it1, tb_it2, tb_it3, tb_it4, tb_spc0, tb_spc1, tb_spc2, lb_bops, lb_augs, lb_cops, lb_ixs, lb_sets, lb_bcs, lb_lfs, lb_bms, lb_its, lb_spcs, lb_cst0, lb_cst1, lb_cst2, lb_cst3, lb_cst4, lb_cst5, lb_cst6, lb_clsA0, lb_clsI0]
  refine ⟨by decide, by decide, call_gv (sp_law_draw hk (by omega) ht) fun x μ1 hx => ?_⟩
  obtain ⟨⟨v1, rfl, v10, v11⟩, ex1⟩ := hx
  refine ⟨by decide, call_gv (sp_law_draw hk (by omega) ex1.tp) fun x μ2 hx => ?_⟩
  obtain ⟨⟨v2, rfl, v20, v21⟩, ex2⟩ := hx
  refine ⟨by decide, call_gv (sp_law_draw hk (by omega) ex2.tp) fun x μ3 hx => ?_⟩
  obtain ⟨⟨v3, rfl, v30, v31⟩, ex3⟩ := hx
  refine ⟨by decide, by decide, fun a ha => ?_⟩
  have na := ex3.tp.fresh ha
  have e4 := fun o => Bx.new (o := o) ex3.tp ha
  refine call_gv (sp_law_one updM_same na (by simp) (by simp) (e4 _).tp) fun x μ5 hx => ?_
  obtain ⟨hm, ex5⟩ := hx
  have hb := bnd_pos l
  refine Dn.of (hq _ _ ?_ (ex1.trans (ex2.trans (ex3.trans ((e4 _).trans ex5)))))
  simp only [List.mem_cons, List.not_mem_nil, or_false] at hm
  rcases hm with rfl | rfl | rfl | rfl | rfl
  · exact ⟨.any, rfl, trivial, hb, by show 1 ≤ l + 1; omega⟩
  · exact ⟨.none, rfl, trivial, hb, by show 1 ≤ l + 1; omega⟩
  · exact ⟨.kind v1, rfl, ⟨v10, v11⟩, hb, by show 1 ≤ l + 1; omega⟩
  · exact ⟨.kind v2, rfl, ⟨v20, v21⟩, hb, by show 1 ≤ l + 1; omega⟩
  · exact ⟨.kind v3, rfl, ⟨v30, v31⟩, hb, by show 1 ≤ l + 1; omega⟩
theorem sp_law_term {c : List Addr} {p : Addr} {k r : Int} (hk : 0 < k) (hk2 : k ≤ 1000) (hr : 0 ≤ r) (hr2 : r ≤ 1000) : ∀ (l n : Nat) (μ : Mem), l + 4 ≤ n → BgX p μ →
    Dr (Gm c n j_law_term) [.ref p, .int k, .int r, .int ((l + 1 : Nat) : Int)] p μ (Drawn k r l) := by
  intro l
  induction l with
  | zero =>
    intro n μ hn ht Q E hq
    obtain ⟨n, rfl⟩ : ∃ j, n = j + 1 + 1 + 1 := ⟨n - 3, by omega⟩
    refine ⟨rfl, ?_⟩
    show dSs _ _ t_law_term [some (.ref p), some (.int k), some (.int r), some (.int ((0 + 1 : Nat) : Int)), none] μ _ _
    have leaf := fun μ' x4 (h' : Bx p μ μ') => term_leaf (c := c) (n := n) (r := r) (l := 0) (r1 := some (.int r)) (li := some (.int ((0 + 1 : Nat) : Int))) (x4 := x4) (E := E) hk hk2 h'.tp fun x μ2 g e => hq x μ2 ⟨g, h'.trans e⟩
    simp only [t_law_term, thenS, dropS, dSs, dS, dE, dA, dT, dAnds, dOrs, dTAnds, dTOrs, dIfs, dO, dG, dGs, dI, lenGs, sSeq, sIf, sRet, sRetN, sAsg, sDrop, sNext, sPar, sPar3, sBreak, sCont, eVar, eC, eOp, eUn, eChain, eAnd, eOr, eNot, eIte, aNil, aCons, eTup, eLst, eCall, eCB, tVal, tAndM, tOrM, tNotM, eSl, pSome, pNone, eDk0, eDt0, eDkc, gNm, gTp, gNl, gCn, wipeM, List.map_cons, List.map_nil, le_ii, lt_ii, gt_ii, ge_ii, add_ii, sub_ii, iadd_ii, neg_i, len_t, int_i, abs_i, List.getElem?_cons_zero, List.getElem?_cons_succ, List.set_cons_zero, List.set_cons_succ, List.length_cons, List.length_nil, Option.some.injEq, W.bl.injEq, W.int.injEq, W.str.injEq, W.tup.injEq, exists_eq_left', exists_eq_left, ↓reduceIte, Bool.not_true, Bool.not_false, Bool.false_eq_true, if_true, if_false, tb_bop0, tb_bop1, tb_bop2, tb_bop3, tb_bop4, tb_bop5, tb_bop6, tb_aug0, tb_aug1, tb_cop0, tb_cop1, tb_cop2, tb_cop3, tb_cop4, tb_cop5, tb_cop6, tb_cop7, tb_cop8, tb_cop9, tb_cop10, tb_cop11, tb_cop12, tb_ix0, tb_ix1, tb_set0, tb_set1, tb_set2, tb_bc0, tb_bc1, tb_bc2, tb_bc3, tb_bc4, tb_bc5, tb_bc6, tb_bc7, tb_bc8, tb_bc9, tb_bc10, tb_bc11, tb_bc12, tb_bc13, tb_bc14, tb_bc15, tb_bc16, tb_bc17, tb_bc18, tb_lf0, tb_lf1, tb_lf2, tb_lf3, tb_lf4, tb_lf5, tb_lf6, tb_bm0, tb_bm1, tb_bm2, tb_bm3, tb_bm4, tb_it0, tb_it1, tb_it2, tb_it3, tb_it4, tb_spc0, tb_spc1, tb_spc2, lb_bops, lb_augs, lb_cops, lb_ixs, lb_sets, lb_bcs, lb_lfs, lb_bms, lb_its, lb_spcs, lb_cst0, lb_cst1, lb_cst2, lb_cst3, lb_cst4, lb_cst5, lb_cst6, lb_clsA0, lb_clsI0] at leaf ⊢
    refine call_gv (sp_law_draw (by decide) (by decide) ht) fun x μ1 hx => ?_
    obtain ⟨⟨v, rfl, v0, v1⟩, ex1⟩ := hx
    exact (if_pos (by decide)).mpr (leaf μ1 none ex1)
  | succ l ih =>
    intro n μ hn ht Q E hq
    obtain ⟨n, rfl⟩ : ∃ j, n = j + 1 + 1 + 1 := ⟨n - 3, by omega⟩
    have el : (((l + 1 + 1 : Nat) : Int) - 1) = ((l + 1 : Nat) : Int) := by omega
    refine ⟨rfl, ?_⟩
    show dSs _ _ t_law_term [some (.ref p), some (.int k), some (.int r), some (.int ((l + 1 + 1 : Nat) : Int)), none] μ _ _
    have leaf := fun μ' x4 (h' : Bx p μ μ') => term_leaf (c := c) (n := n) (r := r) (l := l + 1) (r1 := some (.int r)) (li := some (.int ((l + 1 + 1 : Nat) : Int))) (x4 := x4) (E := E) hk hk2 h'.tp fun x μ2 g e => hq x μ2 ⟨g, h'.trans e⟩
    simp only [t_law_term, thenS, dropS, dSs, dS, dE, dA, dT, dAnds, dOrs, dTAnds, dTOrs, dIfs, dO, dG, dGs, dI, lenGs, sSeq, sIf, sRet, sRetN, sAsg, sDrop, sNext, sPar, sPar3, sBreak, sCont, eVar, eC, eOp, eUn, eChain, eAnd, eOr, eNot, eIte, aNil, aCons, eTup, eLst, eCall, eCB, tVal, tAndM, tOrM, tNotM, eSl, pSome, pNone, eDk0, eDt0, eDkc, gNm, gTp, gNl, gCn, wipeM, List.map_cons, List.map_nil, le_ii, lt_ii, gt_ii, ge_ii, add_ii, sub_ii, iadd_ii, neg_i, len_t, int_i, abs_i, List.getElem?_cons_zero, List.getElem?_cons_succ, List.set_cons_zero, List.set_cons_succ, List.length_cons, List.length_nil, Option.some.injEq, W.bl.injEq, W.int.injEq, W.str.injEq, W.tup.injEq, exists_eq_left', exists_eq_left, ↓reduceIte, Bool.not_true, Bool.not_false, Bool.false_eq_true, if_true, if_false, tb_bop0, tb_bop1, tb_bop2, tb_bop3, tb_bop4, tb_bop5, tb_bop6, tb_aug0, tb_aug1, tb_cop0, tb_cop1, tb_cop2, tb_cop3, tb_cop4, tb_cop5, tb_cop6, tb_cop7, tb_cop8, tb_cop9, tb_cop10, tb_cop11, tb_cop12, tb_ix0, tb_ix1, tb_set0, tb_set1, tb_set2, tb_bc0, tb_bc1, tb_bc2, tb_bc3, tb_bc4, tb_bc5, tb_bc6, tb_bc7, tb_bc8, tb_bc9, tb_bc10, tb_bc11, tb_bc12, tb_bc13, tb_bc14, tb_bc15, tb_bc16, tb_bc17, tb_bc18, tb_lf0, tb_lf1, tb_lf2, tb_lf3, tb_lf4, tb_lf5, tb_lf6, tb_bm0, tb_bm1, tb_bm2, tb_bm3, tb_bm4, tb_it0, tb_it1, tb_it2, tb_it3, tb_it4, tb_spc0, tb_spc1, tb_spc2, lb_bops, lb_augs, lb_cops, lb_ixs, lb_sets, lb_bcs, lb_lfs, lb_bms, lb_its, lb_spcs, lb_cst0, lb_cst1, lb_cst2, lb_cst3, lb_cst4, lb_cst5, lb_cst6, lb_clsA0, lb_clsI0] at leaf
    simp only [t_law_term, dSs, dS, dE, dA, dT, dAnds, dOrs, dTAnds, dTOrs, dIfs, dO, dG, dGs, dI, lenGs, sSeq, sIf, sRet, sRetN, sAsg, sDrop, sNext, sPar, sPar3, sBreak, sCont, eVar, eC, eOp, eUn, eChain, eAnd, eOr, eNot, eIte, aNil, aCons, eTup, eLst, eCall, eCB, tVal, tAndM, tOrM, tNotM, eSl, pSome, pNone, eDk0, eDt0, eDkc, gNm, gTp, gNl, gCn, wipeM, List.map_cons, List.map_nil, le_ii, lt_ii, gt_ii, ge_ii, add_ii, sub_ii, iadd_ii, neg_i, len_t, int_i, abs_i, List.getElem?_cons_zero, List.getElem?_cons_succ, List.set_cons_zero, List.set_cons_succ, List.length_cons, List.length_nil, Option.some.injEq, W.bl.injEq, W.int.injEq, W.str.injEq, W.tup.injEq, exists_eq_left', exists_eq_left, ↓reduceIte, Bool.not_true, Bool.not_false, Bool.false_eq_true, if_true, if_false, tb_bop0, tb_bop1, tb_bop2, tb_bop3, tb_bop4, tb_bop5, tb_bop6, tb_aug0, tb_aug1, tb_cop0, tb_cop1, tb_cop2, tb_cop3, tb_cop4, tb_cop5, tb_cop6, tb_cop7, tb_cop8, tb_cop9, tb_cop10, tb_cop11, tb_cop12, tb_ix0, tb_ix1, tb_set0, tb_set1, tb_set2, tb_bc0, tb_bc1, tb_bc2, tb_bc3, tb_bc4, tb_bc5, tb_bc6, tb_bc7, tb_bc8, tb_bc9, tb_bc10, tb_bc11, tb_bc12, tb_bc13, tb_bc14, tb_bc15, tb_bc16, tb_bc17, tb_bc18, tb_lf0, tb_lf1, tb_lf2, tb_lf3, tb_lf4, tb_lf5, tb_lf6, tb_bm0, tb_bm1, tb_bm2, tb_bm3, tb_bm4, tb_it0, tb_it1, tb_it2, tb_it3, tb_it4, tb_spc0, tb_spc1, tb_spc2, lb_bops, lb_augs, lb_cops, lb_ixs, lb_sets, lb_bcs, lb_lfs, lb_bms, lb_its, lb_spcs, lb_cst0, lb_cst1, lb_cst2, lb_cst3, lb_cst4, lb_cst5, lb_cst6, lb_clsA0, lb_clsI0, el]
    refine call_gv (sp_law_draw (by decide) (by decide) ht) fun x μ1 hx => ?_
    obtain ⟨⟨v, rfl, v0, v1⟩, ex1⟩ := hx
    refine (if_neg (by rw [decide_eq_true_eq]; omega)).mpr ?_
    by_cases h4 : v < 4
    · exact ⟨_, rfl, (if_pos (decide_eq_true h4)).mpr (leaf μ1 none ex1)⟩
    · refine ⟨_, rfl, (if_neg (by rw [decide_eq_true_eq]; exact h4)).mpr ?_⟩
      have some_ : ∀ μ', Bx p μ μ' → 0 < r → dSs (libA c) (Gam (libA c) D (n + 2)) (dropS 3 t_law_term) [some (.ref p), some (.int k), some (.int r), some (.int ((l + 1 + 1 : Nat) : Int)), some (.int v)] μ' { nx := fun _ μ1 => Dn Q .non μ1, rt := Dn Q } (fun x _ μ1 => Dn E x μ1) := by
        intro μ' ex' hr0
        simp only [t_law_term, dropS, dSs, dS, dE, dA, dT, dAnds, dOrs, dTAnds, dTOrs, dIfs, dO, dG, dGs, dI, lenGs, sSeq, sIf, sRet, sRetN, sAsg, sDrop, sNext, sPar, sPar3, sBreak, sCont, eVar, eC, eOp, eUn, eChain, eAnd, eOr, eNot, eIte, aNil, aCons, eTup, eLst, eCall, eCB, tVal, tAndM, tOrM, tNotM, eSl, pSome, pNone, eDk0, eDt0, eDkc, gNm, gTp, gNl, gCn, wipeM, List.map_cons, List.map_nil, le_ii, lt_ii, gt_ii, ge_ii, add_ii, sub_ii, iadd_ii, neg_i, len_t, int_i, abs_i, List.getElem?_cons_zero, List.getElem?_cons_succ, List.set_cons_zero, List.set_cons_succ, List.length_cons, List.length_nil, Option.some.injEq, W.bl.injEq, W.int.injEq, W.str.injEq, W.tup.injEq, exists_eq_left', exists_eq_left, ↓reduceIte, Bool.not_true, Bool.not_false, Bool.false_eq_true, if_true, if_false, tb_bop0, tb_bop1, tb_bop2, tb_bop3, tb_bop4, tb_bop5, tb_bop6, tb_aug0, tb_aug1, tb_cop0, tb_cop1, tb_cop2, tb_cop3, tb_cop4, tb_cop5, tb_cop6, tb_cop7, tb_cop8, tb_cop9, tb_cop10, tb_cop11, tb_cop12, tb_ix0, tb_ix1, tb_set0, tb_set1, tb_set2, tb_bc0, tb_bc1, tb_bc2, tb_bc3, tb_bc4, tb_bc5, tb_bc6, tb_bc7, tb_bc8, tb_bc9, tb_bc10, tb_bc11, tb_bc12, tb_bc13, tb_bc14, tb_bc15, tb_bc16, tb_bc17, tb_bc18, tb_lf0, tb_lf1, tb_lf2, tb_lf3, tb_lf4, tb_lf5, tb_lf6, tb_bm0, tb_bm1, tb_bm2, tb_bm3, tb_bm4, tb_it0, tb_it1, tb_it2, tb_it3, tb_it4, tb_spc0, tb_spc1, tb_spc2, lb_bops, lb_augs, lb_cops, lb_ixs, lb_sets, lb_bcs, lb_lfs, lb_bms, lb_its, lb_spcs, lb_cst0, lb_cst1, lb_cst2, lb_cst3, lb_cst4, lb_cst5, lb_cst6, lb_clsA0, lb_clsI0, el]
        refine call_gv (sp_law_draw hr0 (by omega) ex'.tp) fun x μ2 hx => ?_
        obtain ⟨⟨j, rfl, j0, j1⟩, ex2⟩ := hx
        refine call_gv (ih (n + 2) μ2 (by omega) ex2.tp) fun x μ3 hx => ?_
        obtain ⟨⟨t, rfl, t1, t2, t3⟩, ex3⟩ := hx
        refine ⟨by decide, Dn.of (hq _ _ ⟨⟨.some j t, rfl, ⟨j0, j1, t1⟩, ?_, ?_⟩, ex'.trans (ex2.trans ex3)⟩)⟩
        · show tsz t + 1 ≤ 2 * bnd l + 1
          omega
        · show tdp t + 1 ≤ l + 1 + 1
          omega
      have both : ∀ μ', Bx p μ μ' → dSs (libA c) (Gam (libA c) D (n + 2)) (thenS (dropS 2 t_law_term)) [some (.ref p), some (.int k), some (.int r), some (.int ((l + 1 + 1 : Nat) : Int)), some (.int v)] μ' { nx := fun _ μ1 => Dn Q .non μ1, rt := Dn Q } (fun x _ μ1 => Dn E x μ1) := by
        intro μ' ex'
        simp only [t_law_term, dropS, thenS, dSs, dS, dE, dA, dT, dAnds, dOrs, dTAnds, dTOrs, dIfs, dO, dG, dGs, dI, lenGs, sSeq, sIf, sRet, sRetN, sAsg, sDrop, sNext, sPar, sPar3, sBreak, sCont, eVar, eC, eOp, eUn, eChain, eAnd, eOr, eNot, eIte, aNil, aCons, eTup, eLst, eCall, eCB, tVal, tAndM, tOrM, tNotM, eSl, pSome, pNone, eDk0, eDt0, eDkc, gNm, gTp, gNl, gCn, wipeM, List.map_cons, List.map_nil, le_ii, lt_ii, gt_ii, ge_ii, add_ii, sub_ii, iadd_ii, neg_i, len_t, int_i, abs_i, List.getElem?_cons_zero, List.getElem?_cons_succ, List.set_cons_zero, List.set_cons_succ, List.length_cons, List.length_nil, Option.some.injEq, W.bl.injEq, W.int.injEq, W.str.injEq, W.tup.injEq, exists_eq_left', exists_eq_left, ↓reduceIte, Bool.not_true, Bool.not_false, Bool.false_eq_true, if_true, if_false, tb_bop0, tb_bop1, tb_bop2, tb_bop3, tb_bop4, tb_bop5, tb_bop6, tb_aug0, tb_aug1, tb_cop0, tb_cop1, tb_cop2, tb_cop3, tb_cop4, tb_cop5, tb_cop6, tb_cop7, tb_cop8, tb_cop9, tb_cop10, tb_cop11, tb_cop12, tb_ix0, tb_ix1, tb_set0, tb_set1, tb_set2, tb_bc0, tb_bc1, tb_bc2, tb_bc3, tb_bc4, tb_bc5, tb_bc6, tb_bc7, tb_bc8, tb_bc9, tb_bc10, tb_bc11, tb_bc12, tb_bc13, tb_bc14, tb_bc15, tb_bc16, tb_bc17, tb_bc18, tb_lf0, tb_lf1, tb_lf2, tb_lf3, tb_lf4, tb_lf5, tb_lf6, tb_bm0, tb_bm1, tb_bm2, tb_bm3, tb_bm4, tb_it0, tb_it1, tb_it2, tb_it3, tb_it4, tb_spc0, tb_spc1, tb_spc2, lb_bops, lb_augs, lb_cops, lb_ixs, lb_sets, lb_bcs, lb_lfs, lb_bms, lb_its, lb_spcs, lb_cst0, lb_cst1, lb_cst2, lb_cst3, lb_cst4, lb_cst5, lb_cst6, lb_clsA0, lb_clsI0, el]
        refine call_gv (ih (n + 2) μ' (by omega) ex'.tp) fun x μ2 hx => ?_
        obtain ⟨⟨a, rfl, a1, a2, a3⟩, ex2⟩ := hx
        refine call_gv (ih (n + 2) μ2 (by omega) ex2.tp) fun x μ3 hx => ?_
        obtain ⟨⟨b, rfl, b1, b2, b3⟩, ex3⟩ := hx
        refine ⟨by decide, Dn.of (hq _ _ ⟨⟨.both a b, rfl, ⟨a1, b1⟩, ?_, ?_⟩, ex'.trans (ex2.trans ex3)⟩)⟩
        · show tsz a + tsz b + 1 ≤ 2 * bnd l + 1
          omega
        · show max (tdp a) (tdp b) + 1 ≤ l + 1 + 1
          omega
      simp only [t_law_term, thenS, dropS, dSs, dS, dE, dA, dT, dAnds, dOrs, dTAnds, dTOrs, dIfs, dO, dG, dGs, dI, lenGs, sSeq, sIf, sRet, sRetN, sAsg, sDrop, sNext, sPar, sPar3, sBreak, sCont, eVar, eC, eOp, eUn, eChain, eAnd, eOr, eNot, eIte, aNil, aCons, eTup, eLst, eCall, eCB, tVal, tAndM, tOrM, tNotM, eSl, pSome, pNone, eDk0, eDt0, eDkc, gNm, gTp, gNl, gCn, wipeM, List.map_cons, List.map_nil, le_ii, lt_ii, gt_ii, ge_ii, add_ii, sub_ii, iadd_ii, neg_i, len_t, int_i, abs_i, List.getElem?_cons_zero, List.getElem?_cons_succ, List.set_cons_zero, List.set_cons_succ, List.length_cons, List.length_nil, Option.some.injEq, W.bl.injEq, W.int.injEq, W.str.injEq, W.tup.injEq, exists_eq_left', exists_eq_left, ↓reduceIte, Bool.not_true, Bool.not_false, Bool.false_eq_true, if_true, if_false, tb_bop0, tb_bop1, tb_bop2, tb_bop3, tb_bop4, tb_bop5, tb_bop6, tb_aug0, tb_aug1, tb_cop0, tb_cop1, tb_cop2, tb_cop3, tb_cop4, tb_cop5, tb_cop6, tb_cop7, tb_cop8, tb_cop9, tb_cop10, tb_cop11, tb_cop12, tb_ix0, tb_ix1, tb_set0, tb_set1, tb_set2, tb_bc0, tb_bc1, tb_bc2, tb_bc3, tb_bc4, tb_bc5, tb_bc6, tb_bc7, tb_bc8, tb_bc9, tb_bc10, tb_bc11, tb_bc12, tb_bc13, tb_bc14, tb_bc15, tb_bc16, tb_bc17, tb_bc18, tb_lf0, tb_lf1, tb_lf2, tb_lf3, tb_lf4, tb_lf5, tb_lf6, tb_bm0, tb_bm1, tb_bm2, tb_bm3, tb_bm4, tb_it0, tb_it1, tb_it2, tb_it3, tb_it4, tb_spc0, tb_spc1, tb_spc2, lb_bops, lb_augs, lb_cops, lb_ixs, lb_sets, lb_bcs, lb_lfs, lb_bms, lb_its, lb_spcs, lb_cst0, lb_cst1, lb_cst2, lb_cst3, lb_cst4, lb_cst5, lb_cst6, lb_clsA0, lb_clsI0, el] at some_ both
      by_cases h7 : v < 7
      · exact ⟨_, rfl, (if_pos (decide_eq_true h7)).mpr (both μ1 ex1)⟩
      · refine ⟨_, rfl, (if_neg (by rw [decide_eq_true_eq]; exact h7)).mpr (o_eqi ⟨_, rfl, ?_⟩)⟩
        by_cases hr0 : r = 0
        · exact (if_pos (decide_eq_true hr0)).mpr (both μ1 ex1)
        · exact (if_neg (sk_eqi hr0)).mpr (some_ μ1 ex1 (by omega))
/-! ### axioms -/
theorem sp_law_axiom {c : List Addr} {p : Addr} {k r : Int} {n : Nat} {μ : Mem} (hk : 0 < k) (hk2 : k ≤ 1000) (hr : 0 ≤ r) (hr2 : r ≤ 1000) (hn : 8 ≤ n) (ht : BgX p μ) : Dr (Gm c n j_law_axiom) [.ref p, .int k, .int r] p μ (fun x => ∃ a : Axm, x = axW a ∧ wfA k r a) := fun Q E hq => by
  obtain ⟨n, rfl⟩ : ∃ j, n = j + 1 + 1 := ⟨n - 2, by omega⟩
  refine ⟨rfl, ?_⟩
  show dSs _ _ t_law_axiom [some (.ref p), some (.int k), some (.int r), none] μ _ _
  have fin : ∀ (v : Int) μ', Bx p μ μ' → dSs (libA c) (Gam (libA c) D (n + 1)) (dropS 3 t_law_axiom) [some (.ref p), some (.int k), some (.int r), some (.int v)] μ' { nx := fun _ μ1 => Dn Q .non μ1, rt := Dn Q } (fun x _ μ1 => Dn E x μ1) := by
    intro v μ' ex'
    simp only [t_law_axiom, dropS, dSs, dS, dE, dA, dT, dAnds, dOrs, dTAnds, dTOrs, dIfs, dO, dG, dGs, dI, lenGs, sSeq, sIf, sRet, sRetN, sAsg, sDrop, sNext, sPar, sPar3, sBreak, sCont, eVar, eC, eOp, eUn, eChain, eAnd, eOr, eNot, eIte, aNil, aCons, eTup, eLst, eCall, eCB, tVal, tAndM, tOrM, tNotM, eSl, pSome, pNone, eDk0, eDt0, eDkc, gNm, gTp, gNl, gCn, wipeM, List.map_cons, List.map_nil, le_ii, lt_ii, gt_ii, ge_ii, add_ii, sub_ii, iadd_ii, neg_i, len_t, int_i, abs_i, List.getElem?_cons_zero, List.getElem?_cons_succ, List.set_cons_zero, List.set_cons_succ, List.length_cons, List.length_nil, Option.some.injEq, W.bl.injEq, W.int.injEq, W.str.injEq, W.tup.injEq, exists_eq_left', exists_eq_left, ↓reduceIte, Bool.not_true, Bool.not_false, Bool.false_eq_true, if_true, if_false, tb_bop0, tb_bop1, tb_bop2, tb_bop3, tb_bop4, tb_bop5, tb_bop6, tb_aug0, tb_aug1, tb_cop0, tb_cop1, tb_cop2, tb_cop3, tb_cop4, tb_cop5, tb_cop6, tb_cop7, tb_cop8, tb_cop9, tb_cop10, tb_cop11, tb_cop12, tb_ix0, tb_ix1, tb_set0, tb_set1, tb_set2, tb_bc0, tb_bc1, tb_bc2, tb_bc3, tb_bc4, tb_bc5, tb_bc6, tb_bc7, tb_bc8, tb_bc9, tb_bc10, tb_bc11, tb_bc12, tb_bc13, tb_bc14, tb_bc15, tb_bc16, tb_bc17, tb_bc18, tb_lf0, tb_lf1, tb_lf2, tb_lf3, tb_lf4, tb_lf5, tb_lf6, tb_bm0, tb_bm1, tb_bm2, tb_bm3, tb_bm4, tb_it0, tb_it1, tb_it2, tb_it3, tb_it4, tb_spc0, tb_spc1, tb_spc2, lb_bops, lb_augs, lb_cops, lb_ixs, lb_sets, lb_bcs, lb_lfs, lb_bms, lb_its, lb_spcs, lb_cst0, lb_cst1, lb_cst2, lb_cst3, lb_cst4, lb_cst5, lb_cst6, lb_clsA0, lb_clsI0]
    refine call_gv (sp_law_draw (by decide) (by decide) ex'.tp) fun x μ1 hx => ?_
    obtain ⟨⟨s1, rfl, s10, s11⟩, ex1⟩ := hx
    obtain ⟨j1, rfl⟩ := Int.eq_ofNat_of_zero_le s10
    have e1 : (1 + (j1 : Int)) = ((j1 + 1 : Nat) : Int) := by omega
    simp only [add_ii, e1]
    refine call_gv (sp_law_term hk hk2 hr hr2 j1 (n + 1) μ1 (by omega) ex1.tp) fun x μ2 hx => ?_
    obtain ⟨⟨a, rfl, a1, a2, a3⟩, ex2⟩ := hx
    refine call_gv (sp_law_draw (by decide) (by decide) ex2.tp) fun x μ3 hx => ?_
    obtain ⟨⟨s2, rfl, s20, s21⟩, ex3⟩ := hx
    obtain ⟨j2, rfl⟩ := Int.eq_ofNat_of_zero_le s20
    have e2 : (1 + (j2 : Int)) = ((j2 + 1 : Nat) : Int) := by omega
    simp only [add_ii, e2]
    refine call_gv (sp_law_term hk hk2 hr hr2 j2 (n + 1) μ3 (by omega) ex3.tp) fun x μ4 hx => ?_
    obtain ⟨⟨b, rfl, b1, b2, b3⟩, ex4⟩ := hx
    have hb : ∀ j : Nat, j < 3 → bnd j ≤ 7 := fun j hj => match j, hj with
      | 0, _ => by decide
      | 1, _ => by decide
      | 2, _ => by decide
    have := hb j1 (by omega)
    have := hb j2 (by omega)
    exact ⟨by decide, Dn.of (hq _ _ ⟨⟨.is a b, rfl, a1, b1, by omega, by omega, by omega, by omega⟩, ex'.trans (ex1.trans (ex2.trans (ex3.trans ex4)))⟩)⟩
  simp only [t_law_axiom, dropS, dSs, dS, dE, dA, dT, dAnds, dOrs, dTAnds, dTOrs, dIfs, dO, dG, dGs, dI, lenGs, sSeq, sIf, sRet, sRetN, sAsg, sDrop, sNext, sPar, sPar3, sBreak, sCont, eVar, eC, eOp, eUn, eChain, eAnd, eOr, eNot, eIte, aNil, aCons, eTup, eLst, eCall, eCB, tVal, tAndM, tOrM, tNotM, eSl, pSome, pNone, eDk0, eDt0, eDkc, gNm, gTp, gNl, gCn, wipeM, List.map_cons, List.map_nil, le_ii, lt_ii, gt_ii, ge_ii, add_ii, sub_ii, iadd_ii, neg_i, len_t, int_i, abs_i, List.getElem?_cons_zero, List.getElem?_cons_succ, List.set_cons_zero, List.set_cons_succ, List.length_cons, List.length_nil, Option.some.injEq, W.bl.injEq, W.int.injEq, W.str.injEq, W.tup.injEq, exists_eq_left', exists_eq_left, ↓reduceIte, Bool.not_true, Bool.not_false, Bool.false_eq_true, if_true, if_false, tb_bop0, tb_bop1, tb_bop2, tb_bop3, tb_bop4, tb_bop5, tb_bop6, tb_aug0, tb_aug1, tb_cop0, tb_cop1, tb_cop2, tb_cop3, tb_cop4, tb_cop5, tb_cop6, tb_cop7, tb_cop8, tb_cop9, tb_cop10, tb_cop11, tb_cop12, tb_ix0, tb_ix1, tb_set0, tb_set1, tb_set2, tb_bc0, tb_bc1, tb_bc2, tb_bc3, tb_bc4, tb_bc5, tb_bc6, tb_bc7, tb_bc8, tb_bc9, tb_bc10, tb_bc11, tb_bc12, tb_bc13, tb_bc14, tb_bc15, tb_bc16, tb_bc17, tb_bc18, tb_lf0, tb_lf1, tb_lf2, tb_lf3, tb_lf4, tb_lf5, tb_lf6, tb_bm0, tb_bm1, tb_bm2, tb_bm3, tb_bm4, tb_it0, tb_it1, tb_it2, tb_it3, tb_it4, tb_spc0, tb_spc1, tb_spc2, lb_bops, lb_augs, lb_cops, lb_ixs, lb_sets, lb_bcs, lb_lfs, lb_bms, lb_its, lb_spcs, lb_cst0, lb_cst1, lb_cst2, lb_cst3, lb_cst4, lb_cst5, lb_cst6, lb_clsA0, lb_clsI0] at fin ⊢
  by_cases hr0 : 0 < r
  · refine (if_pos (decide_eq_true hr0)).mpr (call_gv (sp_law_draw (by decide) (by decide) ht) fun x μ1 hx => ?_)
    obtain ⟨⟨v, rfl, v0, v1⟩, ex1⟩ := hx
    refine o_eqi ⟨_, rfl, ?_⟩
    by_cases h6 : v = 6
    · refine (if_pos (decide_eq_true h6)).mpr (call_gv (sp_law_draw hr0 (by omega) ex1.tp) fun x μ2 hx => ?_)
      obtain ⟨⟨i1, rfl, i10, i11⟩, ex2⟩ := hx
      refine call_gv (sp_law_draw hr0 (by omega) ex2.tp) fun x μ3 hx => ?_
      obtain ⟨⟨i2, rfl, i20, i21⟩, ex3⟩ := hx
      exact ⟨by decide, Dn.of (hq _ _ ⟨⟨.within i1 i2, rfl, i10, i11, i20, i21⟩, ex1.trans (ex2.trans ex3)⟩)⟩
    · refine (if_neg (sk_eqi h6)).mpr (o_eqi ⟨_, rfl, ?_⟩)
      by_cases h7 : v = 7
      · refine (if_pos (decide_eq_true h7)).mpr (call_gv (sp_law_draw hr0 (by omega) ex1.tp) fun x μ2 hx => ?_)
        obtain ⟨⟨i1, rfl, i10, i11⟩, ex2⟩ := hx
        refine call_gv (sp_law_draw hr0 (by omega) ex2.tp) fun x μ3 hx => ?_
        obtain ⟨⟨i2, rfl, i20, i21⟩, ex3⟩ := hx
        refine call_gv (sp_law_draw hr0 (by omega) ex3.tp) fun x μ4 hx => ?_
        obtain ⟨⟨i3, rfl, i30, i31⟩, ex4⟩ := hx
        exact ⟨by decide, Dn.of (hq _ _ ⟨⟨.chain i1 i2 i3, rfl, i10, i11, i20, i21, i30, i31⟩, ex1.trans (ex2.trans (ex3.trans ex4))⟩)⟩
      · exact (if_neg (sk_eqi h7)).mpr (fin v μ1 ex1)
  · exact (if_neg (by rw [decide_eq_true_eq]; exact hr0)).mpr (o_eqi ⟨_, rfl, (if_neg (by decide)).mpr (o_eqi ⟨_, rfl, (if_neg (by decide)).mpr (fin 0 μ (Bx.refl ht))⟩)⟩)
/-- the axioms found so far -/
structure Fnd (k r : Int) (xs : List Axm) (m : Nat) : Prop where
  wf : ∀ x ∈ xs, wfA k r x
  nd : (xs.map keyA).Nodup
  len : xs.length ≤ m
theorem sp_law_terms {c : List Addr} {p : Addr} {n : Nat} {μ : Mem} (hn : 10 ≤ n) (ht : BgX p μ) : Dr (Gm c n j_law_terms) [.ref p, .int 7] p μ (fun x => ∃ (k r : Int) (xs : List Axm), x = termsW k r (xs.map axW) ∧ 1 ≤ k ∧ k ≤ 4 ∧ 0 ≤ r ∧ r ≤ 3 ∧ Fnd k r xs 7) := fun Q E hq => by
  obtain ⟨n, rfl⟩ : ∃ j, n = j + 1 + 1 := ⟨n - 2, by omega⟩
  refine ⟨rfl, ?_⟩
  show dSs _ _ t_law_terms [some (.ref p), some (.int 7), none, none, none, none, none] μ _ _
  simp only [t_law_terms, dSs, dS, dE, dA, dT, dAnds, dOrs, dTAnds, dTOrs, dIfs, dO, dG, dGs, dI, lenGs, sSeq, sIf, sRet, sRetN, sAsg, sDrop, sNext, sPar, sPar3, sBreak, sCont, eVar, eC, eOp, eUn, eChain, eAnd, eOr, eNot, eIte, aNil, aCons, eTup, eLst, eCall, eCB, tVal, tAndM, tOrM, tNotM, eSl, pSome, pNone, eDk0, eDt0, eDkc, gNm, gTp, gNl, gCn, wipeM, List.map_cons, List.map_nil, le_ii, lt_ii, gt_ii, ge_ii, add_ii, sub_ii, iadd_ii, neg_i, len_t, int_i, abs_i, List.getElem?_cons_zero, List.getElem?_cons_succ, List.set_cons_zero, List.set_cons_succ, List.length_cons, List.length_nil, Option.some.injEq, W.bl.injEq, W.int.injEq, W.str.injEq, W.tup.injEq, exists_eq_left', exists_eq_left, ↓reduceIte, Bool.not_true, Bool.not_false, Bool.false_eq_true, if_true, if_false, tb_bop0, tb_bop1, tb_bop2, tb_bop3, tb_bop4, tb_bop5, tb_bop6, tb_aug0, tb_aug1, tb_cop0, tb_cop1, tb_cop2, tb_cop3, tb_cop4, tb_cop5, tb_cop6, tb_cop7, tb_cop8, tb_cop9, tb_cop10, tb_cop11, tb_cop12, tb_ix0, tb_ix1, tb_set0, tb_set1, tb_set2, tb_bc0, tb_bc1, tb_bc2, tb_bc3, tb_bc4, tb_bc5, tb_bc6, tb_bc7, tb_bc8, tb_bc9, tb_bc10, tb_bc11, tb_bc12, tb_bc13, tb_bc14, tb_bc15, tb_bc16, tb_bc17, tb_bc18, tb_lf0, tb_lf1, tb_lf2, tb_lf3, tb_lf4, tb_lf5, tb_lf6, tb_bm0, tb_bm1, tb_bm2, tb_bm3, tb_bm4, tb_it0, tb_it1, tb_it2, tb_it3, tb_it4, tb_spc0, tb_spc1, tb_spc2, lb_bops, lb_augs, lb_cops, lb_ixs, lb_sets, lb_bcs, lb_lfs, lb_bms, lb_its, lb_spcs, lb_cst0, lb_cst1, lb_cst2, lb_cst3, lb_cst4, lb_cst5, lb_cst6, lb_clsA0, lb_clsI0, sFor, iFn]
  refine call_gv (sp_law_draw (by decide) (by decide) ht) fun x μ1 hx => ?_
  obtain ⟨⟨k, rfl, k0, k1⟩, ex1⟩ := hx
  simp only [add_ii]
  refine call_gv (sp_law_draw (by decide) (by decide) ex1.tp) fun x μ2 hx => ?_
  obtain ⟨⟨r, rfl, r0, r1⟩, ex2⟩ := hx
  refine ⟨Nat.zero_le _, call_gv (sp_law_draw (by decide) (by decide) ex2.tp) fun x μ3 hx => ?_⟩
  obtain ⟨⟨m, rfl, m0, m1⟩, ex3⟩ := hx
  refine ⟨m, rfl, by omega, by omega, ?_⟩
  refine loopF_inv (fun i ρ μ' => ∃ x5 x6 xs, ρ = [some (.ref p), some (.int 7), some (.int (1 + k)), some (.int r), some (.tup (List.map axW xs)), x5, x6] ∧ Fnd (1 + k) r xs i ∧ Bx p μ μ') (rangeW 0 m.toNat) 0 _ _ (fun i w ρ μ' N hi hI hN => ?_) (fun ρ μ' hI => ?_)
    ⟨_, _, [], rfl, ⟨by simp, List.nodup_nil, Nat.zero_le _⟩, ex1.trans (ex2.trans ex3)⟩
  · obtain ⟨x5, x6, xs, rfl, hF, hE⟩ := hI
    have hi2 : i < m.toNat := by
      have := (List.getElem?_eq_some_iff.mp hi).1
      rw [rng_len] at this
      exact this
    simp only [dSs, dS, dE, dA, dT, dAnds, dOrs, dTAnds, dTOrs, dIfs, dO, dG, dGs, dI, lenGs, sSeq, sIf, sRet, sRetN, sAsg, sDrop, sNext, sPar, sPar3, sBreak, sCont, eVar, eC, eOp, eUn, eChain, eAnd, eOr, eNot, eIte, aNil, aCons, eTup, eLst, eCall, eCB, tVal, tAndM, tOrM, tNotM, eSl, pSome, pNone, eDk0, eDt0, eDkc, gNm, gTp, gNl, gCn, wipeM, List.map_cons, List.map_nil, le_ii, lt_ii, gt_ii, ge_ii, add_ii, sub_ii, iadd_ii, neg_i, len_t, int_i, abs_i, List.getElem?_cons_zero, List.getElem?_cons_succ, List.set_cons_zero, List.set_cons_succ, List.length_cons, List.length_nil, Option.some.injEq, W.bl.injEq, W.int.injEq, W.str.injEq, W.tup.injEq, exists_eq_left', exists_eq_left, ↓reduceIte, Bool.not_true, Bool.not_false, Bool.false_eq_true, if_true, if_false, tb_bop0, tb_bop1, tb_bop2, tb_bop3, tb_bop4, tb_bop5, tb_bop6, tb_aug0, tb_aug1, tb_cop0, tb_cop1, tb_cop2, tb_cop3, tb_cop4, tb_cop5, tb_cop6, tb_cop7, tb_cop8, tb_cop9, tb_cop10, tb_cop11, tb_cop12, tb_ix0, tb_ix1, tb_set0, tb_set1, tb_set2, tb_bc0, tb_bc1, tb_bc2, tb_bc3, tb_bc4, tb_bc5, tb_bc6, tb_bc7, tb_bc8, tb_bc9, tb_bc10, tb_bc11, tb_bc12, tb_bc13, tb_bc14, tb_bc15, tb_bc16, tb_bc17, tb_bc18, tb_lf0, tb_lf1, tb_lf2, tb_lf3, tb_lf4, tb_lf5, tb_lf6, tb_bm0, tb_bm1, tb_bm2, tb_bm3, tb_bm4, tb_it0, tb_it1, tb_it2, tb_it3, tb_it4, tb_spc0, tb_spc1, tb_spc2, lb_bops, lb_augs, lb_cops, lb_ixs, lb_sets, lb_bcs, lb_lfs, lb_bms, lb_its, lb_spcs, lb_cst0, lb_cst1, lb_cst2, lb_cst3, lb_cst4, lb_cst5, lb_cst6, lb_clsA0, lb_clsI0]
    refine call_gv (sp_law_axiom (by omega) (by omega) r0 (by omega) (by omega) hE.tp) fun x μ4 hx => ?_
    obtain ⟨⟨a, rfl, ha⟩, ex4⟩ := hx
    obtain ⟨l1, l2⟩ := lay_AL xs hF.wf
    refine ⟨datA a, xs.map datA, dat_A a, .inr (.tup (dats_A xs)), sh_A ha, ?_, ?_⟩
    · show (PyData.canLayAll0 (xs.map datA) && decide (PyData.depthAll (xs.map datA) + 1 ≤ 64)) = true
      rw [l1, decide_eq_true (by omega : PyData.depthAll (xs.map datA) + 1 ≤ 64)]
      rfl
    · rw [if_pos rfl]
      refine ⟨_, rfl, ?_⟩
      by_cases hin : (xs.map datA).any (fun z => PyData.eqv z (datA a)) = true
      · rw [hin, if_neg (by decide)]
        exact hN _ _ ⟨_, _, xs, rfl, ⟨hF.wf, hF.nd, by have := hF.len; omega⟩, hE.trans ex4⟩
      · have hin' : (xs.map datA).any (fun z => PyData.eqv z (datA a)) = false := by simpa using hin
        rw [hin', if_pos (by decide)]
        have hl := hF.len
        refine ⟨by decide, le_line (by rw [List.length_map]; simp only [List.length_cons, List.length_nil]; omega), hN _ _ ⟨_, _, xs ++ [a], by rw [List.map_append]; rfl, ⟨fun y hy => ?_, ?_, by rw [List.length_append, List.length_singleton]; omega⟩, hE.trans ex4⟩⟩
        · rcases List.mem_append.mp hy with hy | hy
          · exact hF.wf y hy
          · rw [List.mem_singleton.mp hy]; exact ha
        · rw [List.map_append]
          refine List.nodup_append.mpr ⟨hF.nd, by simp, fun z hz b hb e => ?_⟩
          obtain ⟨y, hy, ey⟩ := List.mem_map.mp hz
          have hb' : b = keyA a := by simpa using hb
          have e3 : datA y = datA a := by rw [← kdata_A, ← kdata_A, ey, e, hb']
          refine hin (List.any_eq_true.mpr ⟨datA y, List.mem_map.mpr ⟨y, hy, rfl⟩, ?_⟩)
          rw [e3]
          exact eqv_refl _ (plain_A a)
  · obtain ⟨x5, x6, xs, rfl, hF, hE⟩ := hI
    rw [rng_len] at hF
    simp only [dSs, dS, dE, dA, dT, dAnds, dOrs, dTAnds, dTOrs, dIfs, dO, dG, dGs, dI, lenGs, sSeq, sIf, sRet, sRetN, sAsg, sDrop, sNext, sPar, sPar3, sBreak, sCont, eVar, eC, eOp, eUn, eChain, eAnd, eOr, eNot, eIte, aNil, aCons, eTup, eLst, eCall, eCB, tVal, tAndM, tOrM, tNotM, eSl, pSome, pNone, eDk0, eDt0, eDkc, gNm, gTp, gNl, gCn, wipeM, List.map_cons, List.map_nil, le_ii, lt_ii, gt_ii, ge_ii, add_ii, sub_ii, iadd_ii, neg_i, len_t, int_i, abs_i, List.getElem?_cons_zero, List.getElem?_cons_succ, List.set_cons_zero, List.set_cons_succ, List.length_cons, List.length_nil, Option.some.injEq, W.bl.injEq, W.int.injEq, W.str.injEq, W.tup.injEq, exists_eq_left', exists_eq_left, ↓reduceIte, Bool.not_true, Bool.not_false, Bool.false_eq_true, if_true, if_false, tb_bop0, tb_bop1, tb_bop2, tb_bop3, tb_bop4, tb_bop5, tb_bop6, tb_aug0, tb_aug1, tb_cop0, tb_cop1, tb_cop2, tb_cop3, tb_cop4, tb_cop5, tb_cop6, tb_cop7, tb_cop8, tb_cop9, tb_cop10, tb_cop11, tb_cop12, tb_ix0, tb_ix1, tb_set0, tb_set1, tb_set2, tb_bc0, tb_bc1, tb_bc2, tb_bc3, tb_bc4, tb_bc5, tb_bc6, tb_bc7, tb_bc8, tb_bc9, tb_bc10, tb_bc11, tb_bc12, tb_bc13, tb_bc14, tb_bc15, tb_bc16, tb_bc17, tb_bc18, tb_lf0, tb_lf1, tb_lf2, tb_lf3, tb_lf4, tb_lf5, tb_lf6, tb_bm0, tb_bm1, tb_bm2, tb_bm3, tb_bm4, tb_it0, tb_it1, tb_it2, tb_it3, tb_it4, tb_spc0, tb_spc1, tb_spc2, lb_bops, lb_augs, lb_cops, lb_ixs, lb_sets, lb_bcs, lb_lfs, lb_bms, lb_its, lb_spcs, lb_cst0, lb_cst1, lb_cst2, lb_cst3, lb_cst4, lb_cst5, lb_cst6, lb_clsA0, lb_clsI0]
    exact ⟨by decide, Dn.of (hq _ _ ⟨⟨1 + k, r, xs, rfl, by omega, by omega, r0, by omega, hF.wf, hF.nd, by have := hF.len; omega⟩, hE⟩)⟩
end K01
set_option Elab.async false
set_option autoImplicit false
set_option linter.all false
set_option maxRecDepth 100000
namespace K01
open PySem PySem.Spec PyProof.Rows L2 MP
section
variable {κ : Type} [DecidableEq κ]
def addK (l : List κ) (k : κ) : List κ := if k ∈ l then l else l ++ [k]
def ded (l m : List κ) : List κ := m.foldl addK l
theorem putM_keys (kvs : List (κ × W)) (k : κ) (w : W) : (putM kvs k w).map (·.1) = addK (kvs.map (·.1)) k := by
  have e : (kvs.any fun kv => decide (kv.1 = k)) = decide (k ∈ kvs.map (·.1)) := by
    rw [Bool.eq_iff_iff, List.any_eq_true, decide_eq_true_eq, List.mem_map]
    constructor
    · rintro ⟨x, h1, h2⟩
      exact ⟨x, h1, of_decide_eq_true h2⟩
    · rintro ⟨x, h1, h2⟩
      exact ⟨x, h1, decide_eq_true h2⟩
  unfold putM addK
  rw [e]
  by_cases h : k ∈ kvs.map (·.1)
  · rw [if_pos (decide_eq_true h), if_pos h, List.map_map]
    refine List.map_congr_left fun x hx => ?_
    show (if x.1 = k then (x.1, w) else x).1 = x.1
    by_cases hk : x.1 = k
    · rw [if_pos hk]
    · rw [if_neg hk]
  · rw [if_neg (by rw [decide_eq_true_eq]; exact h), if_neg h, List.map_append]
    rfl
theorem mergeM_keys : ∀ (more kvs : List (κ × W)), (mergeM kvs more).map (·.1) = ded (kvs.map (·.1)) (more.map (·.1))
  | [], kvs => rfl
  | p :: r, kvs => by
    show (mergeM (putM kvs p.1 p.2) r).map (·.1) = ded (addK (kvs.map (·.1)) p.1) (r.map (·.1))
    rw [mergeM_keys r, putM_keys]
theorem ded_nodup : ∀ (m l : List κ), l.Nodup → (ded l m).Nodup
  | [], l, h => h
  | k :: r, l, h => by
    show (ded (addK l k) r).Nodup
    refine ded_nodup r _ ?_
    unfold addK
    by_cases hk : k ∈ l
    · rw [if_pos hk]; exact h
    · rw [if_neg hk]
      refine List.nodup_append.mpr ⟨h, by simp, fun a ha b hb e => ?_⟩
      rw [List.mem_singleton.mp hb] at e
      rw [e] at ha
      exact hk ha
theorem ded_mem : ∀ (m l : List κ) (x : κ), x ∈ ded l m ↔ x ∈ l ∨ x ∈ m
  | [], l, x => by simp [ded]
  | k :: r, l, x => by
    show x ∈ ded (addK l k) r ↔ _
    rw [ded_mem r]
    unfold addK
    by_cases hk : k ∈ l
    · rw [if_pos hk]
      constructor
      · rintro (h | h)
        · exact .inl h
        · exact .inr (List.mem_cons_of_mem _ h)
      · rintro (h | h)
        · exact .inl h
        · rcases List.mem_cons.mp h with h | h
          · rw [h]; exact .inl hk
          · exact .inr h
    · rw [if_neg hk]
      simp only [List.mem_append, List.mem_singleton, List.mem_cons, or_assoc, List.not_mem_nil, false_or]
theorem ded_len : ∀ (m l : List κ), (ded l m).length ≤ l.length + m.length
  | [], l => Nat.le_refl _
  | k :: r, l => by
    have h := ded_len r (addK l k)
    have h2 : (addK l k).length ≤ l.length + 1 := by
      unfold addK
      split
      · omega
      · rw [List.length_append, List.length_singleton]; exact Nat.le_refl _
    show (ded (addK l k) r).length ≤ _
    rw [List.length_cons]; omega
end
theorem ded_map {α β : Type} [DecidableEq α] [DecidableEq β] {f : α → β} (hf : ∀ a b, f a = f b → a = b) : ∀ (m l : List α), ded (l.map f) (m.map f) = (ded l m).map f
  | [], l => rfl
  | k :: r, l => by
    show ded (addK (l.map f) (f k)) (r.map f) = (ded (addK l k) r).map f
    have e : addK (l.map f) (f k) = (addK l k).map f := by
      unfold addK
      by_cases h : k ∈ l
      · rw [if_pos h, if_pos (List.mem_map.mpr ⟨k, h, rfl⟩)]
      · rw [if_neg h, if_neg fun z => ?_, List.map_append]
        · rfl
        · obtain ⟨a, ha, e⟩ := List.mem_map.mp z
          rw [hf _ _ e] at ha
          exact h ha
    rw [e, ded_map hf]
theorem pk_inj (p q : Int × Int) (h : pk p = pk q) : p = q := by
  unfold pk at h
  injection h with h1 h2
  injection h2 with h2 h3
  injection h1 with h1
  injection h2 with h2
  exact Prod.ext h1 h2
structure Wd where
  n : Nat
  ks : List (List Int)
  rs : List (List (Int × Int))
def intsW (l : List Int) : W := .tup (l.map W.int)
def prsW (l : List (Int × Int)) : W := .tup (l.map pairI)
def worldW (w : Wd) : W := .tup [.str "world", .int (w.n : Int), .tup (w.ks.map intsW), .tup (w.rs.map prsW)]
structure ThOk (n : Nat) (l : List Int) : Prop where
  up : l.Pairwise (· < ·)
  bd : ∀ x ∈ l, 0 ≤ x ∧ x < n
  len : l.length ≤ 20
structure PrOk (n : Nat) (l : List (Int × Int)) : Prop where
  up : l.Pairwise fun p q => SrtO.lexB p q = true
  bd : ∀ p ∈ l, (0 ≤ p.1 ∧ p.1 < n) ∧ 0 ≤ p.2 ∧ p.2 < n
  len : l.length ≤ 60
structure WdOk (k r : Int) (w : Wd) : Prop where
  n1 : 1 ≤ w.n
  n2 : w.n ≤ 200
  kl : (w.ks.length : Int) = k
  rl : (w.rs.length : Int) = r
  kk : k ≤ 20
  rr : r ≤ 20
  ks : ∀ l ∈ w.ks, ThOk w.n l
  rs : ∀ l ∈ w.rs, PrOk w.n l
theorem loopC_dr {i : Nat} {te : ME} {vs : List Nat} {ρ₀ : MEnv} {p : Addr} {P : W → Prop} {Q : List W → Mem → Prop} {μ0 : Mem} : ∀ (items acc : List W) (μ : Mem), Bx p μ0 μ → (∀ w ∈ acc, P w) →
    (∀ w ∈ items, ∀ μ1, Bx p μ0 μ1 → ∀ Q' : MQ, (∀ y μ2, P y → Bx p μ1 μ2 → Q' y μ2) → te ((wipeM ρ₀ vs).set i (some w)) μ1 Q' noX) → acc.length + items.length ≤ sizeLine →
    (∀ acc' μ', acc'.length = acc.length + items.length → (∀ w ∈ acc', P w) → Bx p μ μ' → Q acc' μ') → loopC (gNm i) tTrue te vs ρ₀ (fun _ => True) Q items acc μ
  | [], acc, μ, hx, ha, _, _, h => ⟨trivial, h acc μ (by simp) ha (Bx.refl hx.tp)⟩
  | w :: r, acc, μ, hx, ha, hi, hl, h => by
    refine ⟨trivial, ?_⟩
    rw [List.length_cons] at hl
    simp only [gNm, tTrue, ↓reduceIte]
    refine hi w List.mem_cons_self μ hx _ fun y μ2 hy ex => ⟨by omega, ?_⟩
    refine loopC_dr r (acc ++ [y]) μ2 (hx.trans ex) (fun z hz => ?_) (fun z hz => hi z (List.mem_cons_of_mem _ hz)) (by rw [List.length_append, List.length_singleton]; omega) fun acc' μ' h1 h2 h3 => ?_
    · rcases List.mem_append.mp hz with hz | hz
      · exact ha z hz
      · rw [List.mem_singleton.mp hz]; exact hy
    · exact h acc' μ' (by rw [h1, List.length_append, List.length_singleton, List.length_cons]; omega) h2 (ex.trans h3)
theorem loopC_sel {i : Nat} {tt : MT} {te : ME} {vs : List Nat} {ρ₀ : MEnv} {p : Addr} {Q : List W → Mem → Prop} {μ0 : Mem} : ∀ (items acc : List W) (μ : Mem), Bx p μ0 μ →
    (∀ w ∈ items, ∀ μ1, Bx p μ0 μ1 → ∀ Q' : Bool → Mem → Prop, (∀ b μ2, Bx p μ1 μ2 → Q' b μ2) → tt ((wipeM ρ₀ vs).set i (some w)) μ1 Q' noX) →
    (∀ w ∈ items, ∀ μ1, ∀ Q' : MQ, Q' w μ1 → te ((wipeM ρ₀ vs).set i (some w)) μ1 Q' noX) → acc.length + items.length ≤ sizeLine →
    (∀ sub μ', List.Sublist sub items → Bx p μ μ' → Q (acc ++ sub) μ') → loopC (gNm i) tt te vs ρ₀ (fun _ => True) Q items acc μ
  | [], acc, μ, hx, _, _, _, h => ⟨trivial, by have := h [] μ (List.Sublist.refl _) (Bx.refl hx.tp); rwa [List.append_nil] at this⟩
  | w :: r, acc, μ, hx, h1, h2, hl, h => by
    refine ⟨trivial, ?_⟩
    rw [List.length_cons] at hl
    refine h1 w List.mem_cons_self μ hx _ fun b μ2 ex => ?_
    by_cases hb : b = true
    · rw [if_pos hb]
      refine h2 w List.mem_cons_self μ2 _ ⟨by omega, ?_⟩
      refine loopC_sel r (acc ++ [w]) μ2 (hx.trans ex) (fun z hz => h1 z (List.mem_cons_of_mem _ hz)) (fun z hz => h2 z (List.mem_cons_of_mem _ hz)) (by rw [List.length_append, List.length_singleton]; omega) fun sub μ' s e => ?_
      rw [List.append_assoc]
      exact h (w :: sub) μ' (s.cons_cons w) (ex.trans e)
    · rw [if_neg hb]
      refine loopC_sel r acc μ2 (hx.trans ex) (fun z hz => h1 z (List.mem_cons_of_mem _ hz)) (fun z hz => h2 z (List.mem_cons_of_mem _ hz)) (by omega) fun sub μ' s e => h sub μ' (s.cons w) (ex.trans e)
theorem sub_map {α β : Type} {f : α → β} : ∀ {l : List α} {s : List β}, List.Sublist s (l.map f) → ∃ t, s = t.map f ∧ List.Sublist t l := by
  intro l s h
  obtain ⟨t, h1, h2⟩ := List.sublist_map_iff.mp h
  exact ⟨t, h2, h1⟩
theorem range_th {n : Nat} {t : List Nat} (h : List.Sublist t (List.range n)) (hn : n ≤ 20) : ThOk n (t.map fun j : Nat => (j : Int)) where
  up := by
    rw [List.pairwise_map]
    refine List.Pairwise.imp ?_ (List.Pairwise.sublist h List.pairwise_lt_range)
    intro a b h
    omega
  bd := fun x hx => by
    obtain ⟨j, hj, rfl⟩ := List.mem_map.mp hx
    have := List.mem_range.mp (h.subset hj)
    omega
  len := by
    rw [List.length_map]
    have := h.length_le
    rw [List.length_range] at this
    omega
theorem all_of {α : Type} {f : α → W} {R : α → Prop} : ∀ {l : List W}, (∀ w ∈ l, ∃ a, w = f a ∧ R a) → ∃ as : List α, l = as.map f ∧ ∀ a ∈ as, R a
  | [], _ => ⟨[], rfl, by simp⟩
  | w :: r, h => by
    obtain ⟨as, rfl, h2⟩ := all_of fun w hw => h w (List.mem_cons_of_mem _ hw)
    obtain ⟨a, rfl, ha⟩ := h _ List.mem_cons_self
    refine ⟨a :: as, rfl, fun x hx => ?_⟩
    rcases List.mem_cons.mp hx with e | e
    · rw [e]; exact ha
    · exact h2 x e
/-- sorted and no two alike: strictly ascending -/
theorem lex_up {l : List (Int × Int)} (h : LexS l) (hn : l.Nodup) : l.Pairwise fun p q => SrtO.lexB p q = true := by
  refine List.Pairwise.imp₂ ?_ h hn
  intro p q h1 h2
  rw [SrtO.lexB_iff]
  rw [SrtO.lexB_no] at h1
  have : p.1 ≠ q.1 ∨ p.2 ≠ q.2 := by
    by_cases e : p.1 = q.1
    · exact .inr fun e2 => h2 (Prod.ext e e2)
    · exact .inl e
  omega
end K01
set_option Elab.async false
set_option autoImplicit false
set_option linter.all false
set_option maxRecDepth 100000
namespace K01
open PySem PySem.Spec PyProof.Rows L2 MP
theorem tup_l {a : Addr} {xs : List W} {μ : Mem} {Q : MQ} (h : μ a = some (.lst xs)) (q : Q (.tup xs) μ) : oTupleOf [.ref a] μ Q := ⟨xs, .inl h, q⟩
/-- one row of pairs, from k on: roles.append(tuple(sorted(dict(..)))) -/
theorem role_turn {c : List Addr} {p f : Addr} {n : Nat} {size : Nat} {x1 x2 x4 x6 x7 x8 x9 x10 : Option W} {rs : List (List (Int × Int))} {μ : Mem} {DD : MEnds} {E : MXS} (hs : 1 ≤ size) (hs2 : size ≤ 5) (ht : BgX p μ) (hf : μ f = some (.lst (rs.map prsW))) (nf : f ≠ p) (hl : rs.length ≤ 100)
    (hN : ∀ l x7 x10 μ', PrOk size l → l.length < 2 * size → BgX p μ' → μ' f = some (.lst ((rs ++ [l]).map prsW)) → (∀ a o, a ≠ p → a ≠ f → μ a = some o → μ' a = some o) → DD.nx [some (.ref p), x1, x2, some (.int (size : Int)), x4, some (.ref f), x6, x7, x8, x9, x10] μ') :
    dSs (libA c) (Gam (libA c) D (n + 2)) (forS (dropS 3 t_law_world)) [some (.ref p), x1, x2, some (.int (size : Int)), x4, some (.ref f), x6, x7, x8, x9, x10] μ DD E := by
  simp only [t_law_world, dropS, forS, dSs, dS, dE, dA, dT, dAnds, dOrs, dTAnds, dTOrs, dIfs, dO, dG, dGs, dI, lenGs, sSeq, sIf, sRet, sRetN, sAsg, sDrop, sNext, sPar, sPar3, sBreak, sCont, eVar, eC, eOp, eUn, eChain, eAnd, eOr, eNot, eIte, aNil, aCons, eTup, eLst, eCall, eCB, tVal, tAndM, tOrM, tNotM, eSl, pSome, pNone, eDk0, eDt0, eDkc, gNm, gTp, gNl, gCn, wipeM, List.map_cons, List.map_nil, le_ii, lt_ii, gt_ii, ge_ii, add_ii, sub_ii, iadd_ii, neg_i, len_t, int_i, abs_i, List.getElem?_cons_zero, List.getElem?_cons_succ, List.set_cons_zero, List.set_cons_succ, List.length_cons, List.length_nil, Option.some.injEq, W.bl.injEq, W.int.injEq, W.str.injEq, W.tup.injEq, exists_eq_left', exists_eq_left, ↓reduceIte, Bool.not_true, Bool.not_false, Bool.false_eq_true, if_true, if_false, tb_bop0, tb_bop1, tb_bop2, tb_bop3, tb_bop4, tb_bop5, tb_bop6, tb_aug0, tb_aug1, tb_cop0, tb_cop1, tb_cop2, tb_cop3, tb_cop4, tb_cop5, tb_cop6, tb_cop7, tb_cop8, tb_cop9, tb_cop10, tb_cop11, tb_cop12, tb_ix0, tb_ix1, tb_set0, tb_set1, tb_set2, tb_bc0, tb_bc1, tb_bc2, tb_bc3, tb_bc4, tb_bc5, tb_bc6, tb_bc7, tb_bc8, tb_bc9, tb_bc10, tb_bc11, tb_bc12, tb_bc13, tb_bc14, tb_bc15, tb_bc16, tb_bc17, tb_bc18, tb_lf0, tb_lf1, tb_lf2, tb_lf3, tb_lf4, tb_lf5, tb_lf6, tb_bm0, tb_bm1, tb_bm2, tb_bm3, tb_bm4, tb_it0, tb_it1, tb_it2, tb_it3, tb_it4, tb_spc0, tb_spc1, tb_spc2, lb_bops, lb_augs, lb_cops, lb_ixs, lb_sets, lb_bcs, lb_lfs, lb_bms, lb_its, lb_spcs, lb_cst0, lb_cst1, lb_cst2, lb_cst3, lb_cst4, lb_cst5, lb_cst6, lb_clsA0, lb_clsI0, eLcI, iFn, eBM]
  refine o_mul_r (by omega) (by omega) (call_gv (sp_law_draw (by omega) (by omega) ht) fun x μ1 hx => ?_)
  obtain ⟨⟨m, rfl, m0, m1⟩, ex1⟩ := hx
  refine ⟨m, rfl, by omega, by omega, ?_⟩
  refine loopC_dr (p := p) (P := fun w => ∃ q : Int × Int, w = pairT (pk q, .int 1) ∧ (0 ≤ q.1 ∧ q.1 < size) ∧ 0 ≤ q.2 ∧ q.2 < size) (rangeW 0 m.toNat) [] _ (Bx.refl ex1.tp) (by simp) (fun w hw μ3 ex3 Q' q => ?_) (le_line (by rw [rng_len, List.length_nil]; omega)) (fun acc μ3 hlen hacc ex3 => ?_)
  · simp only [dSs, dS, dE, dA, dT, dAnds, dOrs, dTAnds, dTOrs, dIfs, dO, dG, dGs, dI, lenGs, sSeq, sIf, sRet, sRetN, sAsg, sDrop, sNext, sPar, sPar3, sBreak, sCont, eVar, eC, eOp, eUn, eChain, eAnd, eOr, eNot, eIte, aNil, aCons, eTup, eLst, eCall, eCB, tVal, tAndM, tOrM, tNotM, eSl, pSome, pNone, eDk0, eDt0, eDkc, gNm, gTp, gNl, gCn, wipeM, List.map_cons, List.map_nil, le_ii, lt_ii, gt_ii, ge_ii, add_ii, sub_ii, iadd_ii, neg_i, len_t, int_i, abs_i, List.getElem?_cons_zero, List.getElem?_cons_succ, List.set_cons_zero, List.set_cons_succ, List.length_cons, List.length_nil, Option.some.injEq, W.bl.injEq, W.int.injEq, W.str.injEq, W.tup.injEq, exists_eq_left', exists_eq_left, ↓reduceIte, Bool.not_true, Bool.not_false, Bool.false_eq_true, if_true, if_false, tb_bop0, tb_bop1, tb_bop2, tb_bop3, tb_bop4, tb_bop5, tb_bop6, tb_aug0, tb_aug1, tb_cop0, tb_cop1, tb_cop2, tb_cop3, tb_cop4, tb_cop5, tb_cop6, tb_cop7, tb_cop8, tb_cop9, tb_cop10, tb_cop11, tb_cop12, tb_ix0, tb_ix1, tb_set0, tb_set1, tb_set2, tb_bc0, tb_bc1, tb_bc2, tb_bc3, tb_bc4, tb_bc5, tb_bc6, tb_bc7, tb_bc8, tb_bc9, tb_bc10, tb_bc11, tb_bc12, tb_bc13, tb_bc14, tb_bc15, tb_bc16, tb_bc17, tb_bc18, tb_lf0, tb_lf1, tb_lf2, tb_lf3, tb_lf4, tb_lf5, tb_lf6, tb_bm0, tb_bm1, tb_bm2, tb_bm3, tb_bm4, tb_it0, tb_it1, tb_it2, tb_it3, tb_it4, tb_spc0, tb_spc1, tb_spc2, lb_bops, lb_augs, lb_cops, lb_ixs, lb_sets, lb_bcs, lb_lfs, lb_bms, lb_its, lb_spcs, lb_cst0, lb_cst1, lb_cst2, lb_cst3, lb_cst4, lb_cst5, lb_cst6, lb_clsA0, lb_clsI0]
    refine call_gv (sp_law_draw (by omega) (by omega) ex3.tp) fun x μ4 hx => ?_
    obtain ⟨⟨a, rfl, a0, a1⟩, ex4⟩ := hx
    refine call_gv (sp_law_draw (by omega) (by omega) ex4.tp) fun x μ5 hx => ?_
    obtain ⟨⟨b, rfl, b0, b1⟩, ex5⟩ := hx
    exact ⟨by decide, by decide, q _ _ ⟨(a, b), rfl, ⟨a0, a1⟩, b0, b1⟩ (ex4.trans ex5)⟩
  · obtain ⟨ps, rfl, hps⟩ := all_of hacc
    intro a ha
    rw [rng_len, List.length_nil, List.length_map] at hlen
    have na := ex3.tp.fresh ha
    refine ⟨ps.map fun q => (pk q, .int 1), by rw [updM_same, List.map_map]; rfl, fun d hd => ?_⟩
    have hk : (mergeM [] (ps.map fun q => (pk q, W.int 1))).map (·.1) = (ded ([] : List (Int × Int)) ps).map pk := by
      rw [mergeM_keys, List.map_map]
      exact ded_map pk_inj ps []
    have e2 : BgX p (updM (updM μ3 a (.lst (ps.map fun q => pairT (pk q, .int 1)))) d (.dt (mergeM [] (ps.map fun q => (pk q, W.int 1))))) := by
      have t1 := ex3.tp.other (o := .lst (ps.map fun q => pairT (pk q, .int 1))) na
      exact t1.other (t1.fresh hd)
    have keep : ∀ b o, b ≠ p → μ b = some o → (updM (updM μ3 a (.lst (ps.map fun q => pairT (pk q, .int 1)))) d (.dt (mergeM [] (ps.map fun q => (pk q, W.int 1))))) b = some o := fun b o n1 e => by
      have h3 : μ3 b = some o := ex3.kp b o n1 (ex1.kp b o n1 e)
      have na' : b ≠ a := fun z => by subst z; rw [ha] at h3; cases h3
      have h4 : (updM μ3 a (.lst (ps.map fun q => pairT (pk q, .int 1)))) b = some o := by rw [updM_ne na']; exact h3
      have nd : b ≠ d := fun z => by subst z; rw [hd] at h4; cases h4
      rw [updM_ne nd]; exact h4
    have hf1 := keep f _ nf hf
    refine ⟨.inl ⟨rfl, _, .inl hf1⟩, _, ded ([] : List (Int × Int)) ps, updM_same, hk, fun ys h1 h2 g hg => tup_l updM_same ?_⟩
    have t3 := e2.other (o := .lst (ys.map pairI)) (e2.fresh hg)
    have keep2 : ∀ b o, b ≠ p → μ b = some o → (updM (updM (updM μ3 a (.lst (ps.map fun q => pairT (pk q, .int 1)))) d (.dt (mergeM [] (ps.map fun q => (pk q, W.int 1))))) g (.lst (ys.map pairI))) b = some o := fun b o n1 e => by
      have h5 := keep b o n1 e
      have ng : b ≠ g := fun z => by subst z; rw [hg] at h5; cases h5
      rw [updM_ne ng]; exact h5
    have hf' := keep2 f _ nf hf
    have hdl := ded_len ps ([] : List (Int × Int))
    have hyl := h1.length_eq
    have ok : PrOk size ys := ⟨lex_up h2 (h1.nodup_iff.mpr (ded_nodup ps ([] : List (Int × Int)) List.nodup_nil)), fun q hq => by
      have := (ded_mem ps ([] : List (Int × Int)) q).mp (h1.mem_iff.mp hq)
      rcases this with z | z
      · cases z
      · exact hps q z, by rw [List.length_nil] at hdl; omega⟩
    refine ⟨_, hf', Nat.lt_of_le_of_lt (by rw [List.length_map]; omega : _ ≤ 200) (by decide), hN ys _ _ _ ok (by rw [List.length_nil] at hdl; omega) (t3.other nf) ?_ fun b o n1 n2 e => by rw [updM_ne n2]; exact keep2 b o n1 e⟩
    rw [updM_same, List.map_append]
    rfl
/-- a world as it is drawn -/
structure Small (w : Wd) : Prop where
  n : w.n ≤ 5
  rs : ∀ l ∈ w.rs, l.length ≤ 9
theorem sp_law_world {c : List Addr} {p : Addr} {k r : Int} {axs : List W} {n : Nat} {μ : Mem} (hk : 0 ≤ k) (hk2 : k ≤ 20) (hr : 0 ≤ r) (hr2 : r ≤ 20) (hn : 8 ≤ n) (ht : BgX p μ) :
    Dr (Gm c n j_law_world) [.ref p, termsW k r axs, .int 5] p μ (fun x => ∃ w, x = worldW w ∧ WdOk k r w ∧ Small w) := fun Q E hq => by
  obtain ⟨n, rfl⟩ : ∃ j, n = j + 1 + 1 + 1 := ⟨n - 3, by omega⟩
  refine ⟨rfl, ?_⟩
  show dSs _ _ t_law_world [some (.ref p), some (.tup [.str "terms", .int k, .int r, .tup axs]), some (.int 5), none, none, none, none, none, none, none, none] μ _ _
  have turn := fun (f : Addr) (size : Nat) x4 x6 x7 x8 x9 x10 (rs : List (List (Int × Int))) μ' DD E => role_turn (c := c) (p := p) (f := f) (n := n) (size := size) (x1 := some (.tup [.str "terms", .int k, .int r, .tup axs])) (x2 := some (.int 5)) (x4 := x4) (x6 := x6) (x7 := x7) (x8 := x8) (x9 := x9) (x10 := x10) (rs := rs) (μ := μ') (DD := DD) (E := E)
  simp only [t_law_world, dropS, forS, dSs, dS, dE, dA, dT, dAnds, dOrs, dTAnds, dTOrs, dIfs, dO, dG, dGs, dI, lenGs, sSeq, sIf, sRet, sRetN, sAsg, sDrop, sNext, sPar, sPar3, sBreak, sCont, eVar, eC, eOp, eUn, eChain, eAnd, eOr, eNot, eIte, aNil, aCons, eTup, eLst, eCall, eCB, tVal, tAndM, tOrM, tNotM, eSl, pSome, pNone, eDk0, eDt0, eDkc, gNm, gTp, gNl, gCn, wipeM, List.map_cons, List.map_nil, le_ii, lt_ii, gt_ii, ge_ii, add_ii, sub_ii, iadd_ii, neg_i, len_t, int_i, abs_i, List.getElem?_cons_zero, List.getElem?_cons_succ, List.set_cons_zero, List.set_cons_succ, List.length_cons, List.length_nil, Option.some.injEq, W.bl.injEq, W.int.injEq, W.str.injEq, W.tup.injEq, exists_eq_left', exists_eq_left, ↓reduceIte, Bool.not_true, Bool.not_false, Bool.false_eq_true, if_true, if_false, tb_bop0, tb_bop1, tb_bop2, tb_bop3, tb_bop4, tb_bop5, tb_bop6, tb_aug0, tb_aug1, tb_cop0, tb_cop1, tb_cop2, tb_cop3, tb_cop4, tb_cop5, tb_cop6, tb_cop7, tb_cop8, tb_cop9, tb_cop10, tb_cop11, tb_cop12, tb_ix0, tb_ix1, tb_set0, tb_set1, tb_set2, tb_bc0, tb_bc1, tb_bc2, tb_bc3, tb_bc4, tb_bc5, tb_bc6, tb_bc7, tb_bc8, tb_bc9, tb_bc10, tb_bc11, tb_bc12, tb_bc13, tb_bc14, tb_bc15, tb_bc16, tb_bc17, tb_bc18, tb_lf0, tb_lf1, tb_lf2, tb_lf3, tb_lf4, tb_lf5, tb_lf6, tb_bm0, tb_bm1, tb_bm2, tb_bm3, tb_bm4, tb_it0, tb_it1, tb_it2, tb_it3, tb_it4, tb_spc0, tb_spc1, tb_spc2, lb_bops, lb_augs, lb_cops, lb_ixs, lb_sets, lb_bcs, lb_lfs, lb_bms, lb_its, lb_spcs, lb_cst0, lb_cst1, lb_cst2, lb_cst3, lb_cst4, lb_cst5, lb_cst6, lb_clsA0, lb_clsI0, eLcI, iFn, eBM] at turn
  simp only [t_law_world, dSs, dS, dE, dA, dT, dAnds, dOrs, dTAnds, dTOrs, dIfs, dO, dG, dGs, dI, lenGs, sSeq, sIf, sRet, sRetN, sAsg, sDrop, sNext, sPar, sPar3, sBreak, sCont, eVar, eC, eOp, eUn, eChain, eAnd, eOr, eNot, eIte, aNil, aCons, eTup, eLst, eCall, eCB, tVal, tAndM, tOrM, tNotM, eSl, pSome, pNone, eDk0, eDt0, eDkc, gNm, gTp, gNl, gCn, wipeM, List.map_cons, List.map_nil, le_ii, lt_ii, gt_ii, ge_ii, add_ii, sub_ii, iadd_ii, neg_i, len_t, int_i, abs_i, List.getElem?_cons_zero, List.getElem?_cons_succ, List.set_cons_zero, List.set_cons_succ, List.length_cons, List.length_nil, Option.some.injEq, W.bl.injEq, W.int.injEq, W.str.injEq, W.tup.injEq, exists_eq_left', exists_eq_left, ↓reduceIte, Bool.not_true, Bool.not_false, Bool.false_eq_true, if_true, if_false, tb_bop0, tb_bop1, tb_bop2, tb_bop3, tb_bop4, tb_bop5, tb_bop6, tb_aug0, tb_aug1, tb_cop0, tb_cop1, tb_cop2, tb_cop3, tb_cop4, tb_cop5, tb_cop6, tb_cop7, tb_cop8, tb_cop9, tb_cop10, tb_cop11, tb_cop12, tb_ix0, tb_ix1, tb_set0, tb_set1, tb_set2, tb_bc0, tb_bc1, tb_bc2, tb_bc3, tb_bc4, tb_bc5, tb_bc6, tb_bc7, tb_bc8, tb_bc9, tb_bc10, tb_bc11, tb_bc12, tb_bc13, tb_bc14, tb_bc15, tb_bc16, tb_bc17, tb_bc18, tb_lf0, tb_lf1, tb_lf2, tb_lf3, tb_lf4, tb_lf5, tb_lf6, tb_bm0, tb_bm1, tb_bm2, tb_bm3, tb_bm4, tb_it0, tb_it1, tb_it2, tb_it3, tb_it4, tb_spc0, tb_spc1, tb_spc2, lb_bops, lb_augs, lb_cops, lb_ixs, lb_sets, lb_bcs, lb_lfs, lb_bms, lb_its, lb_spcs, lb_cst0, lb_cst1, lb_cst2, lb_cst3, lb_cst4, lb_cst5, lb_cst6, lb_clsA0, lb_clsI0, sFor, eLcI, iFn, eBM]
  refine call_gv (sp_law_draw (by decide) (by decide) ht) fun x μ1 hx => ?_
  obtain ⟨⟨s, rfl, s0, s1⟩, ex1⟩ := hx
  obtain ⟨s, rfl⟩ := Int.eq_ofNat_of_zero_le s0
  have es : 1 + (s : Int) = ((s + 1 : Nat) : Int) := by omega
  simp only [add_ii, es]
  refine ix_t (i := 1) rfl ⟨k, rfl, by omega, by omega, ?_⟩
  refine loopC_dr (p := p) (P := fun w => ∃ l, w = intsW l ∧ ThOk (s + 1) l) (rangeW 0 k.toNat) [] _ (Bx.refl ex1.tp) (by simp) (fun w hw μ3 ex3 Q' q => ?_) (le_line (by rw [rng_len, List.length_nil]; omega)) (fun acc μ3 hlen hacc ex3 => ?_)
  · simp only [dSs, dS, dE, dA, dT, dAnds, dOrs, dTAnds, dTOrs, dIfs, dO, dG, dGs, dI, lenGs, sSeq, sIf, sRet, sRetN, sAsg, sDrop, sNext, sPar, sPar3, sBreak, sCont, eVar, eC, eOp, eUn, eChain, eAnd, eOr, eNot, eIte, aNil, aCons, eTup, eLst, eCall, eCB, tVal, tAndM, tOrM, tNotM, eSl, pSome, pNone, eDk0, eDt0, eDkc, gNm, gTp, gNl, gCn, wipeM, List.map_cons, List.map_nil, le_ii, lt_ii, gt_ii, ge_ii, add_ii, sub_ii, iadd_ii, neg_i, len_t, int_i, abs_i, List.getElem?_cons_zero, List.getElem?_cons_succ, List.set_cons_zero, List.set_cons_succ, List.length_cons, List.length_nil, Option.some.injEq, W.bl.injEq, W.int.injEq, W.str.injEq, W.tup.injEq, exists_eq_left', exists_eq_left, ↓reduceIte, Bool.not_true, Bool.not_false, Bool.false_eq_true, if_true, if_false, tb_bop0, tb_bop1, tb_bop2, tb_bop3, tb_bop4, tb_bop5, tb_bop6, tb_aug0, tb_aug1, tb_cop0, tb_cop1, tb_cop2, tb_cop3, tb_cop4, tb_cop5, tb_cop6, tb_cop7, tb_cop8, tb_cop9, tb_cop10, tb_cop11, tb_cop12, tb_ix0, tb_ix1, tb_set0, tb_set1, tb_set2, tb_bc0, tb_bc1, tb_bc2, tb_bc3, tb_bc4, tb_bc5, tb_bc6, tb_bc7, tb_bc8, tb_bc9, tb_bc10, tb_bc11, tb_bc12, tb_bc13, tb_bc14, tb_bc15, tb_bc16, tb_bc17, tb_bc18, tb_lf0, tb_lf1, tb_lf2, tb_lf3, tb_lf4, tb_lf5, tb_lf6, tb_bm0, tb_bm1, tb_bm2, tb_bm3, tb_bm4, tb_it0, tb_it1, tb_it2, tb_it3, tb_it4, tb_spc0, tb_spc1, tb_spc2, lb_bops, lb_augs, lb_cops, lb_ixs, lb_sets, lb_bcs, lb_lfs, lb_bms, lb_its, lb_spcs, lb_cst0, lb_cst1, lb_cst2, lb_cst3, lb_cst4, lb_cst5, lb_cst6, lb_clsA0, lb_clsI0, eLcI, iFn]
    refine ⟨_, rfl, by omega, by omega, ?_⟩
    rw [Int.toNat_natCast]
    refine loopC_sel (p := p) (rangeW 0 (s + 1)) [] _ (Bx.refl ex3.tp) (fun w hw μ4 ex4 Q2 q2 => ?_) (fun w hw μ4 Q2 q2 => ?_) (le_line (by rw [rng_len, List.length_nil]; omega)) fun sub μ4 hsub ex4 => ?_
    · simp only [dSs, dS, dE, dA, dT, dAnds, dOrs, dTAnds, dTOrs, dIfs, dO, dG, dGs, dI, lenGs, sSeq, sIf, sRet, sRetN, sAsg, sDrop, sNext, sPar, sPar3, sBreak, sCont, eVar, eC, eOp, eUn, eChain, eAnd, eOr, eNot, eIte, aNil, aCons, eTup, eLst, eCall, eCB, tVal, tAndM, tOrM, tNotM, eSl, pSome, pNone, eDk0, eDt0, eDkc, gNm, gTp, gNl, gCn, wipeM, List.map_cons, List.map_nil, le_ii, lt_ii, gt_ii, ge_ii, add_ii, sub_ii, iadd_ii, neg_i, len_t, int_i, abs_i, List.getElem?_cons_zero, List.getElem?_cons_succ, List.set_cons_zero, List.set_cons_succ, List.length_cons, List.length_nil, Option.some.injEq, W.bl.injEq, W.int.injEq, W.str.injEq, W.tup.injEq, exists_eq_left', exists_eq_left, ↓reduceIte, Bool.not_true, Bool.not_false, Bool.false_eq_true, if_true, if_false, tb_bop0, tb_bop1, tb_bop2, tb_bop3, tb_bop4, tb_bop5, tb_bop6, tb_aug0, tb_aug1, tb_cop0, tb_cop1, tb_cop2, tb_cop3, tb_cop4, tb_cop5, tb_cop6, tb_cop7, tb_cop8, tb_cop9, tb_cop10, tb_cop11, tb_cop12, tb_ix0, tb_ix1, tb_set0, tb_set1, tb_set2, tb_bc0, tb_bc1, tb_bc2, tb_bc3, tb_bc4, tb_bc5, tb_bc6, tb_bc7, tb_bc8, tb_bc9, tb_bc10, tb_bc11, tb_bc12, tb_bc13, tb_bc14, tb_bc15, tb_bc16, tb_bc17, tb_bc18, tb_lf0, tb_lf1, tb_lf2, tb_lf3, tb_lf4, tb_lf5, tb_lf6, tb_bm0, tb_bm1, tb_bm2, tb_bm3, tb_bm4, tb_it0, tb_it1, tb_it2, tb_it3, tb_it4, tb_spc0, tb_spc1, tb_spc2, lb_bops, lb_augs, lb_cops, lb_ixs, lb_sets, lb_bcs, lb_lfs, lb_bms, lb_its, lb_spcs, lb_cst0, lb_cst1, lb_cst2, lb_cst3, lb_cst4, lb_cst5, lb_cst6, lb_clsA0, lb_clsI0]
      refine call_gv (sp_law_draw (by decide) (by decide) ex4.tp) fun x μ5 hx => ?_
      obtain ⟨⟨v, rfl, v0, v1⟩, ex5⟩ := hx
      exact o_eqi ⟨_, rfl, q2 _ _ ex5⟩
    · simp only [dSs, dS, dE, dA, dT, dAnds, dOrs, dTAnds, dTOrs, dIfs, dO, dG, dGs, dI, lenGs, sSeq, sIf, sRet, sRetN, sAsg, sDrop, sNext, sPar, sPar3, sBreak, sCont, eVar, eC, eOp, eUn, eChain, eAnd, eOr, eNot, eIte, aNil, aCons, eTup, eLst, eCall, eCB, tVal, tAndM, tOrM, tNotM, eSl, pSome, pNone, eDk0, eDt0, eDkc, gNm, gTp, gNl, gCn, wipeM, List.map_cons, List.map_nil, le_ii, lt_ii, gt_ii, ge_ii, add_ii, sub_ii, iadd_ii, neg_i, len_t, int_i, abs_i, List.getElem?_cons_zero, List.getElem?_cons_succ, List.set_cons_zero, List.set_cons_succ, List.length_cons, List.length_nil, Option.some.injEq, W.bl.injEq, W.int.injEq, W.str.injEq, W.tup.injEq, exists_eq_left', exists_eq_left, ↓reduceIte, Bool.not_true, Bool.not_false, Bool.false_eq_true, if_true, if_false, tb_bop0, tb_bop1, tb_bop2, tb_bop3, tb_bop4, tb_bop5, tb_bop6, tb_aug0, tb_aug1, tb_cop0, tb_cop1, tb_cop2, tb_cop3, tb_cop4, tb_cop5, tb_cop6, tb_cop7, tb_cop8, tb_cop9, tb_cop10, tb_cop11, tb_cop12, tb_ix0, tb_ix1, tb_set0, tb_set1, tb_set2, tb_bc0, tb_bc1, tb_bc2, tb_bc3, tb_bc4, tb_bc5, tb_bc6, tb_bc7, tb_bc8, tb_bc9, tb_bc10, tb_bc11, tb_bc12, tb_bc13, tb_bc14, tb_bc15, tb_bc16, tb_bc17, tb_bc18, tb_lf0, tb_lf1, tb_lf2, tb_lf3, tb_lf4, tb_lf5, tb_lf6, tb_bm0, tb_bm1, tb_bm2, tb_bm3, tb_bm4, tb_it0, tb_it1, tb_it2, tb_it3, tb_it4, tb_spc0, tb_spc1, tb_spc2, lb_bops, lb_augs, lb_cops, lb_ixs, lb_sets, lb_bcs, lb_lfs, lb_bms, lb_its, lb_spcs, lb_cst0, lb_cst1, lb_cst2, lb_cst3, lb_cst4, lb_cst5, lb_cst6, lb_clsA0, lb_clsI0]
      exact q2
    · rw [rng_map] at hsub
      obtain ⟨t, rfl, ht'⟩ := sub_map hsub
      refine q _ _ ⟨t.map fun j : Nat => (j : Int), ?_, range_th ht' (by omega)⟩ ex4
      show W.tup _ = W.tup _
      rw [List.nil_append, List.map_map]
      rfl
  · obtain ⟨ks, rfl, hks⟩ := all_of hacc
    rw [rng_len, List.length_nil, List.length_map] at hlen
    intro ak hak
    have nk := ex3.tp.fresh hak
    have b4 := Bx.new (o := .lst (ks.map intsW)) ex3.tp hak
    refine ⟨Nat.zero_le _, fun f hf => ?_⟩
    have nf := b4.tp.fresh hf
    have b5 := Bx.new (o := .lst []) b4.tp hf
    have nkf : ak ≠ f := fun z => by subst z; rw [updM_same] at hf; cases hf
    have b15 := ex1.trans (ex3.trans (b4.trans b5))
    have fr : ∀ a o, a ≠ p → μ a = some o → a ≠ f := fun a o n1 e z => by
      subst z
      rw [(ex1.trans (ex3.trans b4)).kp a o n1 e] at hf
      cases hf
    refine ix_t (i := 2) rfl ⟨r, rfl, by omega, by omega, ?_⟩
    refine loopF_inv (fun i ρ μ' => ∃ x6 x7 x8 x9 x10 rs, ρ = [some (.ref p), some (.tup [.str "terms", .int k, .int r, .tup axs]), some (.int 5), some (.int ((s + 1 : Nat) : Int)), some (.ref ak), some (.ref f), x6, x7, x8, x9, x10] ∧ (∀ l ∈ rs, PrOk (s + 1) l ∧ l.length < 2 * (s + 1)) ∧ rs.length = i ∧ BgX p μ' ∧ μ' f = some (.lst (rs.map prsW)) ∧ μ' ak = some (.lst (ks.map intsW)) ∧ ∀ a o, a ≠ p → μ a = some o → μ' a = some o) (rangeW 0 r.toNat) 0 _ _ (fun i w ρ μ' N hi hI hN => ?_) (fun ρ μ' hI => ?_)
      ⟨_, _, _, _, _, [], rfl, by simp, rfl, b15.tp, updM_same, by rw [updM_ne nkf, updM_same], b15.kp⟩
    · obtain ⟨x6, x7, x8, x9, x10, rs, rfl, hrs, hrl, hb, hf', hk', hkp⟩ := hI
      have hi2 : i < r.toNat := by
        have := (List.getElem?_eq_some_iff.mp hi).1
        rw [rng_len] at this
        exact this
      simp only [dSs, dS, dE, dA, dT, dAnds, dOrs, dTAnds, dTOrs, dIfs, dO, dG, dGs, dI, lenGs, sSeq, sIf, sRet, sRetN, sAsg, sDrop, sNext, sPar, sPar3, sBreak, sCont, eVar, eC, eOp, eUn, eChain, eAnd, eOr, eNot, eIte, aNil, aCons, eTup, eLst, eCall, eCB, tVal, tAndM, tOrM, tNotM, eSl, pSome, pNone, eDk0, eDt0, eDkc, gNm, gTp, gNl, gCn, wipeM, List.map_cons, List.map_nil, le_ii, lt_ii, gt_ii, ge_ii, add_ii, sub_ii, iadd_ii, neg_i, len_t, int_i, abs_i, List.getElem?_cons_zero, List.getElem?_cons_succ, List.set_cons_zero, List.set_cons_succ, List.length_cons, List.length_nil, Option.some.injEq, W.bl.injEq, W.int.injEq, W.str.injEq, W.tup.injEq, exists_eq_left', exists_eq_left, ↓reduceIte, Bool.not_true, Bool.not_false, Bool.false_eq_true, if_true, if_false, tb_bop0, tb_bop1, tb_bop2, tb_bop3, tb_bop4, tb_bop5, tb_bop6, tb_aug0, tb_aug1, tb_cop0, tb_cop1, tb_cop2, tb_cop3, tb_cop4, tb_cop5, tb_cop6, tb_cop7, tb_cop8, tb_cop9, tb_cop10, tb_cop11, tb_cop12, tb_ix0, tb_ix1, tb_set0, tb_set1, tb_set2, tb_bc0, tb_bc1, tb_bc2, tb_bc3, tb_bc4, tb_bc5, tb_bc6, tb_bc7, tb_bc8, tb_bc9, tb_bc10, tb_bc11, tb_bc12, tb_bc13, tb_bc14, tb_bc15, tb_bc16, tb_bc17, tb_bc18, tb_lf0, tb_lf1, tb_lf2, tb_lf3, tb_lf4, tb_lf5, tb_lf6, tb_bm0, tb_bm1, tb_bm2, tb_bm3, tb_bm4, tb_it0, tb_it1, tb_it2, tb_it3, tb_it4, tb_spc0, tb_spc1, tb_spc2, lb_bops, lb_augs, lb_cops, lb_ixs, lb_sets, lb_bcs, lb_lfs, lb_bms, lb_its, lb_spcs, lb_cst0, lb_cst1, lb_cst2, lb_cst3, lb_cst4, lb_cst5, lb_cst6, lb_clsA0, lb_clsI0, eLcI, iFn, eBM]
      refine turn f (s + 1) (some (.ref ak)) (some w) x7 x8 x9 x10 rs μ' { nx := N, rt := Dn Q, bk := fun _ _ => False, ct := N } (fun x _ μ1 => Dn E x μ1) (by omega) (by omega) hb hf' nf (by omega) fun l x7' x10' μ2 h1 h1' h2 h3 h4 => hN _ _ ⟨_, _, _, _, _, rs ++ [l], rfl, fun y hy => ?_, by rw [List.length_append, List.length_singleton]; omega, h2, h3, h4 ak _ nk nkf hk', fun a o n1 e => h4 a o n1 (fr a o n1 e) (hkp a o n1 e)⟩
      rcases List.mem_append.mp hy with hy | hy
      · exact hrs y hy
      · rw [List.mem_singleton.mp hy]; exact ⟨h1, h1'⟩
    · obtain ⟨x6, x7, x8, x9, x10, rs, rfl, hrs, hrl, hb, hf', hk', hkp⟩ := hI
      rw [rng_len] at hrl
      simp only [dSs, dS, dE, dA, dT, dAnds, dOrs, dTAnds, dTOrs, dIfs, dO, dG, dGs, dI, lenGs, sSeq, sIf, sRet, sRetN, sAsg, sDrop, sNext, sPar, sPar3, sBreak, sCont, eVar, eC, eOp, eUn, eChain, eAnd, eOr, eNot, eIte, aNil, aCons, eTup, eLst, eCall, eCB, tVal, tAndM, tOrM, tNotM, eSl, pSome, pNone, eDk0, eDt0, eDkc, gNm, gTp, gNl, gCn, wipeM, List.map_cons, List.map_nil, le_ii, lt_ii, gt_ii, ge_ii, add_ii, sub_ii, iadd_ii, neg_i, len_t, int_i, abs_i, List.getElem?_cons_zero, List.getElem?_cons_succ, List.set_cons_zero, List.set_cons_succ, List.length_cons, List.length_nil, Option.some.injEq, W.bl.injEq, W.int.injEq, W.str.injEq, W.tup.injEq, exists_eq_left', exists_eq_left, ↓reduceIte, Bool.not_true, Bool.not_false, Bool.false_eq_true, if_true, if_false, tb_bop0, tb_bop1, tb_bop2, tb_bop3, tb_bop4, tb_bop5, tb_bop6, tb_aug0, tb_aug1, tb_cop0, tb_cop1, tb_cop2, tb_cop3, tb_cop4, tb_cop5, tb_cop6, tb_cop7, tb_cop8, tb_cop9, tb_cop10, tb_cop11, tb_cop12, tb_ix0, tb_ix1, tb_set0, tb_set1, tb_set2, tb_bc0, tb_bc1, tb_bc2, tb_bc3, tb_bc4, tb_bc5, tb_bc6, tb_bc7, tb_bc8, tb_bc9, tb_bc10, tb_bc11, tb_bc12, tb_bc13, tb_bc14, tb_bc15, tb_bc16, tb_bc17, tb_bc18, tb_lf0, tb_lf1, tb_lf2, tb_lf3, tb_lf4, tb_lf5, tb_lf6, tb_bm0, tb_bm1, tb_bm2, tb_bm3, tb_bm4, tb_it0, tb_it1, tb_it2, tb_it3, tb_it4, tb_spc0, tb_spc1, tb_spc2, lb_bops, lb_augs, lb_cops, lb_ixs, lb_sets, lb_bcs, lb_lfs, lb_bms, lb_its, lb_spcs, lb_cst0, lb_cst1, lb_cst2, lb_cst3, lb_cst4, lb_cst5, lb_cst6, lb_clsA0, lb_clsI0]
      refine tup_l hk' (tup_l hf' ⟨by decide, Dn.of (hq _ _ ⟨⟨⟨s + 1, ks, rs⟩, rfl, ⟨by show 1 ≤ s + 1; omega, by show s + 1 ≤ 200; omega, by show ((ks.length : Nat) : Int) = k; omega, by show ((rs.length : Nat) : Int) = r; omega, hk2, hr2, hks, fun l hl => (hrs l hl).1⟩, ⟨by show s + 1 ≤ 5; omega, fun l hl => by have := (hrs l hl).2; omega⟩⟩, hb, hkp⟩)⟩)
end K01
set_option Elab.async false
set_option autoImplicit false
set_option linter.all false
set_option maxRecDepth 100000
namespace K01
open PySem PySem.Spec PyProof.Rows L2 MP
/-! ### ascending rows -/
def pF : W → Int
  | .tup (.int a :: _) => a
  | _ => 0
def pS : W → Int
  | .tup [_, .int b] => b
  | _ => 0
theorem lexLt_eq (a b : Int × Int) : HT.lexLt [a.1, a.2] [b.1, b.2] = SrtO.lexB a b := by
  rw [Bool.eq_iff_iff, SrtO.lexB_iff]
  unfold HT.lexLt
  by_cases h1 : a.1 = b.1
  · rw [if_pos h1]
    unfold HT.lexLt
    by_cases h2 : a.2 = b.2
    · rw [if_pos h2]
      unfold HT.lexLt
      constructor
      · intro h; cases h
      · intro h; omega
    · rw [if_neg h2, decide_eq_true_eq]
      omega
  · rw [if_neg h1, decide_eq_true_eq]
    omega
theorem lt_iB {a b : Int} {μ : Mem} {Q : MQ} (q : Q (.bl (decide (a < b))) μ) : oLtG (.int a) (.int b) μ Q := q
theorem lt_pB {a b : Int × Int} {μ : Mem} {Q : MQ} (q : Q (.bl (SrtO.lexB a b)) μ) : oLtG (pairI a) (pairI b) μ Q := ⟨[a.1, a.2], [b.1, b.2], rfl, rfl, by rw [lexLt_eq]; exact q⟩
def ascB {α : Type} (R : α → α → Bool) (l : List α) : Bool := (l.zip (l.drop 1)).all fun p => R p.1 p.2
theorem asc_pair {α : Type} {R : α → α → Bool} (tr : ∀ a b c, R a b = true → R b c = true → R a c = true) : ∀ {l : List α}, ascB R l = true → l.Pairwise fun a b => R a b = true
  | [], _ => .nil
  | [a], _ => List.pairwise_cons.mpr ⟨by simp, .nil⟩
  | a :: b :: l, h => by
    have h' : (R a b && ascB R (b :: l)) = true := h
    rw [Bool.and_eq_true] at h'
    have h2 := asc_pair tr h'.2
    refine List.pairwise_cons.mpr ⟨fun x hx => ?_, h2⟩
    rcases List.mem_cons.mp hx with rfl | hx
    · exact h'.1
    · exact tr a b x h'.1 ((List.pairwise_cons.mp h2).1 x hx)
theorem pair_asc {α : Type} {R : α → α → Bool} {l : List α} (h : l.Pairwise fun a b => R a b = true) : ascB R l = true := by
  unfold ascB
  rw [List.all_eq_true]
  exact fun p hp => zip_tail h p hp
theorem dats_bls {μ : Mem} : ∀ bs : List Bool, Dats μ (bs.map W.bl) (bs.map PyData.bool)
  | [] => .nil
  | b :: r => .cons (.bl b) (dats_bls r)
theorem sh_bls : ∀ bs : List Bool, PyData.canLayAll0 (bs.map PyData.bool) = true ∧ PyData.depthAll (bs.map PyData.bool) = 0
  | [] => ⟨rfl, rfl⟩
  | b :: r => by
    obtain ⟨h1, h2⟩ := sh_bls r
    rw [List.map_cons]
    exact ⟨by unfold PyData.canLayAll0; rw [h1]; rfl, by unfold PyData.depthAll; rw [h2]; rfl⟩
theorem any_bls : ∀ bs : List Bool, (bs.map PyData.bool).any (fun z => PyData.eqv z (.bool false)) = !(bs.all id)
  | [] => rfl
  | b :: r => by
    rw [List.map_cons, List.any_cons, any_bls r, List.all_cons]
    cases b <;> rfl
/-- False in a list of truths -/
theorem in_bls {neg : Bool} {bs : List Bool} {a : Addr} {μ : Mem} {Q : MQ} (ha : μ a = some (.lst (bs.map W.bl))) (q : Q (.bl (if neg = true then bs.all id else !(bs.all id))) μ) : oIn neg (.bl false) (.ref a) μ Q := by
  obtain ⟨h1, h2⟩ := sh_bls bs
  refine ⟨.bool false, bs.map PyData.bool, .bl false, .inl (.lst ha (dats_bls bs)), rfl, sh_tup h1 (Nat.le_of_eq h2) (by decide), ?_⟩
  rw [any_bls]
  cases neg
  · exact q
  · rw [if_pos rfl, Bool.not_not]
    exact q
theorem range_getD {α : Type} (l : List α) (d : α) (f : α → W) : (rangeW 0 l.length).map (fun x => f (l.getD (intW x).toNat d)) = l.map f := by
  rw [rng_map, List.map_map]
  apply List.ext_getElem?
  intro i
  rw [List.getElem?_map, List.getElem?_map]
  by_cases h : i < l.length
  · rw [List.getElem?_range h, List.getElem?_eq_getElem h]
    show some (f (l.getD ((i : Int)).toNat d)) = _
    rw [Int.toNat_natCast, List.getD_eq_getElem?_getD, List.getElem?_eq_getElem h]
    rfl
  · rw [List.getElem?_eq_none (by rw [List.length_range]; omega), List.getElem?_eq_none (by omega)]
    rfl
section
variable {c : List Addr} {n : Nat} {α : Type} {f : α → W} {R : α → α → Bool} {l : List α} {μ : Mem}
theorem sp_are_asc (hlt : ∀ a b (Q : MQ), Q (.bl (R a b)) μ → oLtG (f a) (f b) μ Q) (hl : l.length ≤ 1000) :
    Pu (Gm c (n + 1) j_are_ascending) [.tup (l.map f)] μ (.bl (ascB R l)) := fun Q E hq => by
  refine ⟨rfl, ?_⟩
  show dSs _ _ t_are_ascending [some (.tup (l.map f)), none, none] μ _ _
  simp only [t_are_ascending, dSs, dS, dE, dA, dT, dAnds, dOrs, dTAnds, dTOrs, dIfs, dO, dG, dGs, dI, lenGs, sSeq, sIf, sRet, sRetN, sAsg, sDrop, sNext, sPar, sPar3, sBreak, sCont, eVar, eC, eOp, eUn, eChain, eAnd, eOr, eNot, eIte, aNil, aCons, eTup, eLst, eCall, eCB, tVal, tAndM, tOrM, tNotM, eSl, pSome, pNone, eDk0, eDt0, eDkc, gNm, gTp, gNl, gCn, wipeM, List.map_cons, List.map_nil, le_ii, lt_ii, gt_ii, ge_ii, add_ii, sub_ii, iadd_ii, neg_i, len_t, int_i, abs_i, List.getElem?_cons_zero, List.getElem?_cons_succ, List.set_cons_zero, List.set_cons_succ, List.length_cons, List.length_nil, Option.some.injEq, W.bl.injEq, W.int.injEq, W.str.injEq, W.tup.injEq, exists_eq_left', exists_eq_left, ↓reduceIte, Bool.not_true, Bool.not_false, Bool.false_eq_true, if_true, if_false, tb_bop0, tb_bop1, tb_bop2, tb_bop3, tb_bop4, tb_bop5, tb_bop6, tb_aug0, tb_aug1, tb_cop0, tb_cop1, tb_cop2, tb_cop3, tb_cop4, tb_cop5, tb_cop6, tb_cop7, tb_cop8, tb_cop9, tb_cop10, tb_cop11, tb_cop12, tb_ix0, tb_ix1, tb_set0, tb_set1, tb_set2, tb_bc0, tb_bc1, tb_bc2, tb_bc3, tb_bc4, tb_bc5, tb_bc6, tb_bc7, tb_bc8, tb_bc9, tb_bc10, tb_bc11, tb_bc12, tb_bc13, tb_bc14, tb_bc15, tb_bc16, tb_bc17, tb_bc18, tb_lf0, tb_lf1, tb_lf2, tb_lf3, tb_lf4, tb_lf5, tb_lf6, tb_bm0, tb_bm1, tb_bm2, tb_bm3, tb_bm4, tb_it0, tb_it1, tb_it2, tb_it3, tb_it4, tb_spc0, tb_spc1, tb_spc2, lb_bops, lb_augs, lb_cops, lb_ixs, lb_sets, lb_bcs, lb_lfs, lb_bms, lb_its, lb_spcs, lb_cst0, lb_cst1, lb_cst2, lb_cst3, lb_cst4, lb_cst5, lb_cst6, lb_clsA0, lb_clsI0, eLcI, iFn, cut1]
  have e : ((l.map f).zip ((l.map f).drop 1)).map pairW = (l.zip (l.drop 1)).map fun p => pairW (f p.1, f p.2) := by
    rw [← List.map_drop, List.zip_map, List.map_map]
    rfl
  show loopC _ _ _ _ _ _ _ (((l.map f).zip ((l.map f).drop 1)).map pairW) _ _
  rw [e]
  have hz : (l.zip (l.drop 1)).length ≤ 1000 := by rw [List.length_zip]; omega
  have go : ∀ (zs : List (α × α)) (acc : List Bool), acc.length + zs.length ≤ 1000 → Dn Q (.bl ((acc ++ zs.map fun p => R p.1 p.2).all id)) μ → loopC (gTp (0 + 1 + 1) (gCn (gNm 1) (gCn (gNm 2) gNl))) tTrue (eOp oLtG (eVar 1) (eVar 2)) [1, 2] [some (.tup (l.map f)), none, none] (fun _ => True) (fun a μ2 => fAll a (Dn Q) μ2) (zs.map fun p => pairW (f p.1, f p.2)) (acc.map W.bl) μ := by
    intro zs
    induction zs with
    | nil => exact fun acc _ h => ⟨trivial, acc, rfl, by simpa using h⟩
    | cons z zs ih =>
      intro acc hl2 h
      rw [List.length_cons] at hl2
      refine ⟨trivial, ?_⟩
      simp only [dSs, dS, dE, dA, dT, dAnds, dOrs, dTAnds, dTOrs, dIfs, dO, dG, dGs, dI, lenGs, sSeq, sIf, sRet, sRetN, sAsg, sDrop, sNext, sPar, sPar3, sBreak, sCont, eVar, eC, eOp, eUn, eChain, eAnd, eOr, eNot, eIte, aNil, aCons, eTup, eLst, eCall, eCB, tVal, tAndM, tOrM, tNotM, eSl, pSome, pNone, eDk0, eDt0, eDkc, gNm, gTp, gNl, gCn, wipeM, List.map_cons, List.map_nil, le_ii, lt_ii, gt_ii, ge_ii, add_ii, sub_ii, iadd_ii, neg_i, len_t, int_i, abs_i, List.getElem?_cons_zero, List.getElem?_cons_succ, List.set_cons_zero, List.set_cons_succ, List.length_cons, List.length_nil, Option.some.injEq, W.bl.injEq, W.int.injEq, W.str.injEq, W.tup.injEq, exists_eq_left', exists_eq_left, ↓reduceIte, Bool.not_true, Bool.not_false, Bool.false_eq_true, if_true, if_false, tb_bop0, tb_bop1, tb_bop2, tb_bop3, tb_bop4, tb_bop5, tb_bop6, tb_aug0, tb_aug1, tb_cop0, tb_cop1, tb_cop2, tb_cop3, tb_cop4, tb_cop5, tb_cop6, tb_cop7, tb_cop8, tb_cop9, tb_cop10, tb_cop11, tb_cop12, tb_ix0, tb_ix1, tb_set0, tb_set1, tb_set2, tb_bc0, tb_bc1, tb_bc2, tb_bc3, tb_bc4, tb_bc5, tb_bc6, tb_bc7, tb_bc8, tb_bc9, tb_bc10, tb_bc11, tb_bc12, tb_bc13, tb_bc14, tb_bc15, tb_bc16, tb_bc17, tb_bc18, tb_lf0, tb_lf1, tb_lf2, tb_lf3, tb_lf4, tb_lf5, tb_lf6, tb_bm0, tb_bm1, tb_bm2, tb_bm3, tb_bm4, tb_it0, tb_it1, tb_it2, tb_it3, tb_it4, tb_spc0, tb_spc1, tb_spc2, lb_bops, lb_augs, lb_cops, lb_ixs, lb_sets, lb_bcs, lb_lfs, lb_bms, lb_its, lb_spcs, lb_cst0, lb_cst1, lb_cst2, lb_cst3, lb_cst4, lb_cst5, lb_cst6, lb_clsA0, lb_clsI0, pairW]
      refine ⟨trivial, trivial, hlt _ _ _ ⟨Nat.lt_of_le_of_lt (by rw [List.length_map]; omega : _ ≤ 1000) (by decide), ?_⟩⟩
      have e2 : acc.map W.bl ++ [W.bl (R z.1 z.2)] = (acc ++ [R z.1 z.2]).map W.bl := by rw [List.map_append]; rfl
      rw [e2]
      exact ih (acc ++ [R z.1 z.2]) (by rw [List.length_append, List.length_singleton]; omega) (by rw [List.append_assoc]; exact h)
  refine go (l.zip (l.drop 1)) [] (by rw [List.length_nil]; omega) (Dn.of ?_)
  rw [List.nil_append, List.all_map]
  exact hq
theorem sp_law_up (hlt : ∀ (μ : Mem) a b (Q : MQ), Q (.bl (R a b)) μ → oLtG (f a) (f b) μ Q) (hl : l.length ≤ 1000) :
    Pu (Gm c (n + 1) j_law_up) [.tup (l.map f)] μ (.bl (ascB R l)) := fun Q E hq => by
  refine ⟨rfl, ?_⟩
  show dSs _ _ t_law_up [some (.tup (l.map f)), none] μ _ _
  simp only [t_law_up, dSs, dS, dE, dA, dT, dAnds, dOrs, dTAnds, dTOrs, dIfs, dO, dG, dGs, dI, lenGs, sSeq, sIf, sRet, sRetN, sAsg, sDrop, sNext, sPar, sPar3, sBreak, sCont, eVar, eC, eOp, eUn, eChain, eAnd, eOr, eNot, eIte, aNil, aCons, eTup, eLst, eCall, eCB, tVal, tAndM, tOrM, tNotM, eSl, pSome, pNone, eDk0, eDt0, eDkc, gNm, gTp, gNl, gCn, wipeM, List.map_cons, List.map_nil, le_ii, lt_ii, gt_ii, ge_ii, add_ii, sub_ii, iadd_ii, neg_i, len_t, int_i, abs_i, List.getElem?_cons_zero, List.getElem?_cons_succ, List.set_cons_zero, List.set_cons_succ, List.length_cons, List.length_nil, Option.some.injEq, W.bl.injEq, W.int.injEq, W.str.injEq, W.tup.injEq, exists_eq_left', exists_eq_left, ↓reduceIte, Bool.not_true, Bool.not_false, Bool.false_eq_true, if_true, if_false, tb_bop0, tb_bop1, tb_bop2, tb_bop3, tb_bop4, tb_bop5, tb_bop6, tb_aug0, tb_aug1, tb_cop0, tb_cop1, tb_cop2, tb_cop3, tb_cop4, tb_cop5, tb_cop6, tb_cop7, tb_cop8, tb_cop9, tb_cop10, tb_cop11, tb_cop12, tb_ix0, tb_ix1, tb_set0, tb_set1, tb_set2, tb_bc0, tb_bc1, tb_bc2, tb_bc3, tb_bc4, tb_bc5, tb_bc6, tb_bc7, tb_bc8, tb_bc9, tb_bc10, tb_bc11, tb_bc12, tb_bc13, tb_bc14, tb_bc15, tb_bc16, tb_bc17, tb_bc18, tb_lf0, tb_lf1, tb_lf2, tb_lf3, tb_lf4, tb_lf5, tb_lf6, tb_bm0, tb_bm1, tb_bm2, tb_bm3, tb_bm4, tb_it0, tb_it1, tb_it2, tb_it3, tb_it4, tb_spc0, tb_spc1, tb_spc2, lb_bops, lb_augs, lb_cops, lb_ixs, lb_sets, lb_bcs, lb_lfs, lb_bms, lb_its, lb_spcs, lb_cst0, lb_cst1, lb_cst2, lb_cst3, lb_cst4, lb_cst5, lb_cst6, lb_clsA0, lb_clsI0, eLcI, iFn]
  refine ⟨_, rfl, by rw [List.length_map]; omega, by rw [List.length_map]; omega, ?_⟩
  have hbl : ((l.zip (l.drop 1)).map fun p => R p.1 p.2).length = l.length - 1 := by
    rw [List.length_map, List.length_zip, List.length_drop]; omega
  have en : (((l.map f).length : Int) - 1).toNat = ((l.zip (l.drop 1)).map fun p => R p.1 p.2).length := by
    rw [hbl, List.length_map]; omega
  rw [en]
  refine loopC_all (fun u => .bl (((l.zip (l.drop 1)).map fun p => R p.1 p.2).getD (intW u).toNat true)) trivial _ _ (fun u hu Q' q => ?_) (le_line (by rw [List.length_nil, rng_len, hbl]; omega)) ?_
  · obtain ⟨j, hj, rfl⟩ := rng_mem hu
    rw [hbl] at hj
    have e1 : l[j]? = some l[j] := List.getElem?_eq_getElem (by omega)
    have e2 : l[j + 1]? = some l[j + 1] := List.getElem?_eq_getElem (by omega)
    have ez : (l.zip (l.drop 1))[j]? = some (l[j], l[j + 1]) := List.getElem?_zip_eq_some.mpr ⟨e1, by rw [List.getElem?_drop, Nat.add_comm]; exact e2⟩
    have eb : ((l.zip (l.drop 1)).map fun p => R p.1 p.2).getD (intW (.int (j : Int))).toNat true = R l[j] l[j + 1] := by
      show ((l.zip (l.drop 1)).map fun p => R p.1 p.2).getD ((j : Int)).toNat true = _
      rw [Int.toNat_natCast, List.getD_eq_getElem?_getD, List.getElem?_map, ez]
      rfl
    rw [eb] at q
    simp only [dSs, dS, dE, dA, dT, dAnds, dOrs, dTAnds, dTOrs, dIfs, dO, dG, dGs, dI, lenGs, sSeq, sIf, sRet, sRetN, sAsg, sDrop, sNext, sPar, sPar3, sBreak, sCont, eVar, eC, eOp, eUn, eChain, eAnd, eOr, eNot, eIte, aNil, aCons, eTup, eLst, eCall, eCB, tVal, tAndM, tOrM, tNotM, eSl, pSome, pNone, eDk0, eDt0, eDkc, gNm, gTp, gNl, gCn, wipeM, List.map_cons, List.map_nil, le_ii, lt_ii, gt_ii, ge_ii, add_ii, sub_ii, iadd_ii, neg_i, len_t, int_i, abs_i, List.getElem?_cons_zero, List.getElem?_cons_succ, List.set_cons_zero, List.set_cons_succ, List.length_cons, List.length_nil, Option.some.injEq, W.bl.injEq, W.int.injEq, W.str.injEq, W.tup.injEq, exists_eq_left', exists_eq_left, ↓reduceIte, Bool.not_true, Bool.not_false, Bool.false_eq_true, if_true, if_false, tb_bop0, tb_bop1, tb_bop2, tb_bop3, tb_bop4, tb_bop5, tb_bop6, tb_aug0, tb_aug1, tb_cop0, tb_cop1, tb_cop2, tb_cop3, tb_cop4, tb_cop5, tb_cop6, tb_cop7, tb_cop8, tb_cop9, tb_cop10, tb_cop11, tb_cop12, tb_ix0, tb_ix1, tb_set0, tb_set1, tb_set2, tb_bc0, tb_bc1, tb_bc2, tb_bc3, tb_bc4, tb_bc5, tb_bc6, tb_bc7, tb_bc8, tb_bc9, tb_bc10, tb_bc11, tb_bc12, tb_bc13, tb_bc14, tb_bc15, tb_bc16, tb_bc17, tb_bc18, tb_lf0, tb_lf1, tb_lf2, tb_lf3, tb_lf4, tb_lf5, tb_lf6, tb_bm0, tb_bm1, tb_bm2, tb_bm3, tb_bm4, tb_it0, tb_it1, tb_it2, tb_it3, tb_it4, tb_spc0, tb_spc1, tb_spc2, lb_bops, lb_augs, lb_cops, lb_ixs, lb_sets, lb_bcs, lb_lfs, lb_bms, lb_its, lb_spcs, lb_cst0, lb_cst1, lb_cst2, lb_cst3, lb_cst4, lb_cst5, lb_cst6, lb_clsA0, lb_clsI0]
    refine ix_t (i := j) (w := f l[j]) (by rw [List.getElem?_map, e1]; rfl) ?_
    have ej : (j : Int) + 1 = ((j + 1 : Nat) : Int) := by omega
    rw [ej]
    exact ix_t (i := j + 1) (w := f l[j + 1]) (by rw [List.getElem?_map, e2]; rfl) (hlt _ _ _ _ q)
  · rw [List.nil_append, range_getD]
    intro p hp
    refine in_bls updM_same ?_
    rw [if_pos rfl, List.all_map]
    exact Dn.sub (sub_upd hp) hq
end
/-! ### things, pairs -/
def tupL : W → List W
  | .tup l => l
  | _ => []
def ltI (a b : Int) : Bool := decide (a < b)
def isThg (m : Int) (v : W) : Bool := isTup v && ((tupL v).all (fun w => isInt w 0 (m - 1)) && ascB ltI ((tupL v).map intW))
def isPr (m : Int) (u : W) : Bool := isTup u && (decide ((tupL u).length = 2) && (tupL u).all fun w => isInt w 0 (m - 1))
def prOf (u : W) : Int × Int := (pF u, pS u)
def isPrs (m : Int) (v : W) : Bool := isTup v && ((tupL v).all (isPr m) && ascB SrtO.lexB ((tupL v).map prOf))
theorem ints_back {is : List Int} : (is.map W.int).map intW = is := by
  rw [List.map_map]
  exact List.map_id is
theorem thg_inv {m : Nat} {v : W} (h : isThg m v = true) : ∃ l, v = intsW l ∧ l.Pairwise (· < ·) ∧ ∀ x ∈ l, 0 ≤ x ∧ x < m := by
  unfold isThg at h
  rw [Bool.and_eq_true, Bool.and_eq_true] at h
  obtain ⟨h1, h2, h3⟩ := h
  cases v with
  | tup ws =>
    obtain ⟨is, e, hi⟩ := ints_inv (r := m) h2
    have e' : ws = is.map W.int := e
    subst e'
    refine ⟨is, rfl, ?_, hi⟩
    have h3' : ascB ltI ((is.map W.int).map intW) = true := h3
    rw [ints_back] at h3'
    exact List.Pairwise.imp (fun h => of_decide_eq_true h) (asc_pair (fun a b c x y => by
      have := of_decide_eq_true x
      have := of_decide_eq_true y
      exact decide_eq_true (by omega)) h3')
  | _ => cases h1
theorem pr_inv {m : Nat} {u : W} (h : isPr m u = true) : ∃ p : Int × Int, u = pairI p ∧ (0 ≤ p.1 ∧ p.1 < m) ∧ 0 ≤ p.2 ∧ p.2 < m := by
  unfold isPr at h
  rw [Bool.and_eq_true, Bool.and_eq_true, decide_eq_true_eq] at h
  obtain ⟨h1, h2, h3⟩ := h
  cases u with
  | tup ws =>
    obtain ⟨is, e, hi⟩ := ints_inv (r := m) h3
    have e' : ws = is.map W.int := e
    subst e'
    have h2' : (is.map W.int).length = 2 := h2
    rw [List.length_map] at h2'
    match is, h2', hi with
    | [a, b], _, hi => exact ⟨(a, b), rfl, hi a (by simp), hi b (by simp)⟩
  | _ => cases h1
theorem prs_list {m : Nat} : ∀ {ws : List W}, ws.all (isPr m) = true → ∃ l : List (Int × Int), ws = l.map pairI ∧ ∀ p ∈ l, (0 ≤ p.1 ∧ p.1 < m) ∧ 0 ≤ p.2 ∧ p.2 < m
  | [], _ => ⟨[], rfl, by simp⟩
  | w :: ws, h => by
    rw [List.all_cons, Bool.and_eq_true] at h
    obtain ⟨p, rfl, hp⟩ := pr_inv h.1
    obtain ⟨l, rfl, hl⟩ := prs_list h.2
    refine ⟨p :: l, rfl, fun q hq => ?_⟩
    rcases List.mem_cons.mp hq with rfl | hq
    · exact hp
    · exact hl q hq
theorem prs_back {l : List (Int × Int)} : (l.map pairI).map prOf = l := by
  rw [List.map_map]
  exact List.map_id l
theorem lex_tr (a b c : Int × Int) (h1 : SrtO.lexB a b = true) (h2 : SrtO.lexB b c = true) : SrtO.lexB a c = true := by
  rw [SrtO.lexB_iff] at *
  omega
theorem prs_inv {m : Nat} {v : W} (h : isPrs m v = true) : ∃ l, v = prsW l ∧ (l.Pairwise fun p q => SrtO.lexB p q = true) ∧ ∀ p ∈ l, (0 ≤ p.1 ∧ p.1 < m) ∧ 0 ≤ p.2 ∧ p.2 < m := by
  unfold isPrs at h
  rw [Bool.and_eq_true, Bool.and_eq_true] at h
  obtain ⟨h1, h2, h3⟩ := h
  cases v with
  | tup ws =>
    obtain ⟨l, e, hl⟩ := prs_list h2
    have e' : ws = l.map pairI := e
    subst e'
    have h3' : ascB SrtO.lexB ((l.map pairI).map prOf) = true := h3
    rw [prs_back] at h3'
    exact ⟨l, rfl, asc_pair lex_tr h3', hl⟩
  | _ => cases h1
end K01
set_option Elab.async false
set_option autoImplicit false
set_option linter.all false
set_option maxRecDepth 100000
namespace K01
open PySem PySem.Spec PyProof.Rows L2 MP
def begOf (ps : List (Int × Int)) (inner : List Int) : List Int := (ps.filter fun p => decide (p.2 ∈ inner)).map (·.1)
def begs (ps : List (Int × Int)) (inner : List Int) (n : Nat) : List Int := ((List.range n).map fun j : Nat => (j : Int)).filter fun i => decide (i ∈ begOf ps inner)
def inT (w : Wd) : Tm → List Int
  | .any => (List.range w.n).map fun j : Nat => (j : Int)
  | .none => []
  | .kind k => w.ks.getD k.toNat []
  | .both a b => (inT w a).filter fun x => decide (x ∈ inT w b)
  | .some r t => begs (w.rs.getD r.toNat []) (inT w t) w.n
  | .var _ => []
theorem asc_uniq : ∀ {l m : List Int}, l.Pairwise (· < ·) → m.Pairwise (· < ·) → (∀ x, x ∈ l ↔ x ∈ m) → l = m
  | [], [], _, _, _ => rfl
  | [], y :: m, _, _, h => absurd ((h y).mpr List.mem_cons_self) (by simp)
  | x :: l, [], _, _, h => absurd ((h x).mp List.mem_cons_self) (by simp)
  | x :: l, y :: m, h1, h2, h => by
    obtain ⟨a1, a2⟩ := List.pairwise_cons.mp h1
    obtain ⟨b1, b2⟩ := List.pairwise_cons.mp h2
    have e : x = y := by
      have hx := (h x).mp List.mem_cons_self
      have hy := (h y).mpr List.mem_cons_self
      rcases List.mem_cons.mp hx with e | hx
      · exact e
      · rcases List.mem_cons.mp hy with e | hy
        · exact e.symm
        · have := b1 x hx
          have := a1 y hy
          omega
    subst e
    refine congrArg _ (asc_uniq a2 b2 fun z => ⟨fun hz => ?_, fun hz => ?_⟩)
    · rcases List.mem_cons.mp ((h z).mp (List.mem_cons_of_mem _ hz)) with e | e
      · have := a1 z hz
        omega
      · exact e
    · rcases List.mem_cons.mp ((h z).mpr (List.mem_cons_of_mem _ hz)) with e | e
      · have := b1 z hz
        omega
      · exact e
theorem begs_eq {n : Nat} {ps : List (Int × Int)} {inner ys : List Int} (h : PrOk n ps) (hp : ys.Perm (ded [] (begOf ps inner))) (hs : ys.Pairwise (· ≤ ·)) : ys = begs ps inner n := by
  have hn := hp.nodup_iff.mpr (ded_nodup (begOf ps inner) [] List.nodup_nil)
  have up : ys.Pairwise (· < ·) := List.Pairwise.imp₂ (fun a b h1 h2 => by omega) hs hn
  have upr : ((List.range n).map fun j : Nat => (j : Int)).Pairwise (· < ·) := by
    rw [List.pairwise_map]
    exact List.Pairwise.imp (fun h => by omega) List.pairwise_lt_range
  refine asc_uniq up (List.Pairwise.filter _ upr) fun x => ?_
  rw [hp.mem_iff, ded_mem]
  unfold begs
  rw [List.mem_filter, decide_eq_true_eq]
  constructor
  · rintro (z | z)
    · cases z
    · refine ⟨?_, z⟩
      obtain ⟨p, hp, rfl⟩ := List.mem_map.mp z
      have := (h.bd p (List.mem_filter.mp hp).1).1
      exact List.mem_map.mpr ⟨p.1.toNat, List.mem_range.mpr (by omega), by omega⟩
  · exact fun z => .inr z.2
theorem beg_len (ps : List (Int × Int)) (inner : List Int) : (begOf ps inner).length ≤ ps.length := by
  unfold begOf
  rw [List.length_map]
  exact List.length_filter_le _ _
theorem inT_len {k r : Int} {w : Wd} (h : WdOk k r w) : ∀ t : Tm, (inT w t).length ≤ 200
  | .any => by
    have := h.n2
    show (List.map _ _).length ≤ 200
    rw [List.length_map, List.length_range]; omega
  | .none => Nat.zero_le _
  | .var _ => Nat.zero_le _
  | .kind j => by
    show (w.ks.getD j.toNat []).length ≤ 200
    rw [List.getD_eq_getElem?_getD]
    cases e : w.ks[j.toNat]? with
    | none => exact Nat.zero_le _
    | some l => exact Nat.le_trans (h.ks l (List.mem_of_getElem? e)).len (by decide)
  | .both a b => Nat.le_trans (List.length_filter_le _ _) (inT_len h a)
  | .some _ t => by
    have := h.n2
    refine Nat.le_trans (List.length_filter_le _ _) ?_
    rw [List.length_map, List.length_range]; omega
theorem role_at {k r j : Int} {w : Wd} (h : WdOk k r w) (j0 : 0 ≤ j) (j1 : j < r) : ∃ ps, w.rs[j.toNat]? = some ps ∧ w.rs.getD j.toNat [] = ps ∧ PrOk w.n ps := by
  have := h.rl
  have hj : j.toNat < w.rs.length := by omega
  refine ⟨w.rs[j.toNat], List.getElem?_eq_getElem hj, ?_, h.rs _ (List.getElem_mem hj)⟩
  rw [List.getD_eq_getElem?_getD, List.getElem?_eq_getElem hj]; rfl
theorem kind_at {k r j : Int} {w : Wd} (h : WdOk k r w) (j0 : 0 ≤ j) (j1 : j < k) : ∃ l, w.ks[j.toNat]? = some l ∧ w.ks.getD j.toNat [] = l := by
  have := h.kl
  have hj : j.toNat < w.ks.length := by omega
  refine ⟨w.ks[j.toNat], List.getElem?_eq_getElem hj, ?_⟩
  rw [List.getD_eq_getElem?_getD, List.getElem?_eq_getElem hj]; rfl
theorem ix_tn {xs : List W} {i : Int} {w : W} {μ : Mem} {Q : MQ} (h0 : 0 ≤ i) (h : xs[i.toNat]? = some w) (q : Q w μ) : oIx (.tup xs) (.int i) μ Q := by
  obtain ⟨j, rfl⟩ := Int.eq_ofNat_of_zero_le h0
  exact ix_t (i := j) (by simpa using h) q
theorem found_loop {c : List Addr} {n : Nat} {d : Addr} {inner : List Int} {x0 x1 x4 x5 x6 x7 x8 x9 x12 : Option W} {DD : MEnds} {E : MXS} {μ : Mem} : ∀ (ps : List (Int × Int)) (ks : List Int) (kvs : List (Key × W)) (x10 x11 : Option W), kvs.map (·.1) = ks.map Sum.inl → ks.length + ps.length ≤ 1000 →
    (∀ kvs' x10 x11, kvs'.map (·.1) = (ded ks (begOf ps inner)).map Sum.inl → DD.nx [x0, x1, some (intsW inner), some (.ref d), x4, x5, x6, x7, x8, x9, x10, x11, x12] (updM μ d (.dk kvs'))) →
    loopF (gTp 2 (gCn (gNm 10) (gCn (gNm 11) gNl))) (dSs (libA c) (Gam (libA c) D n) (forS (dropS 7 t_members))) (fun _ => True) DD E (ps.map pairI) [x0, x1, some (intsW inner), some (.ref d), x4, x5, x6, x7, x8, x9, x10, x11, x12] (updM μ d (.dk kvs))
  | [], ks, kvs, x10, x11, hk, hl, hN => ⟨trivial, hN kvs _ _ hk⟩
  | p :: ps, ks, kvs, x10, x11, hk, hl, hN => by
    refine ⟨trivial, ?_⟩
    rw [List.length_cons] at hl
    simp only [t_members, forS, dropS, dSs, dS, dE, dA, dT, dAnds, dOrs, dTAnds, dTOrs, dIfs, dO, dG, dGs, dI, lenGs, sSeq, sIf, sRet, sRetN, sAsg, sDrop, sNext, sPar, sPar3, sBreak, sCont, eVar, eC, eOp, eUn, eChain, eAnd, eOr, eNot, eIte, aNil, aCons, eTup, eLst, eCall, eCB, tVal, tAndM, tOrM, tNotM, eSl, pSome, pNone, eDk0, eDt0, eDkc, gNm, gTp, gNl, gCn, wipeM, List.map_cons, List.map_nil, le_ii, lt_ii, gt_ii, ge_ii, add_ii, sub_ii, iadd_ii, neg_i, len_t, int_i, abs_i, List.getElem?_cons_zero, List.getElem?_cons_succ, List.set_cons_zero, List.set_cons_succ, List.length_cons, List.length_nil, Option.some.injEq, W.bl.injEq, W.int.injEq, W.str.injEq, W.tup.injEq, exists_eq_left', exists_eq_left, ↓reduceIte, Bool.not_true, Bool.not_false, Bool.false_eq_true, if_true, if_false, tb_bop0, tb_bop1, tb_bop2, tb_bop3, tb_bop4, tb_bop5, tb_bop6, tb_aug0, tb_aug1, tb_cop0, tb_cop1, tb_cop2, tb_cop3, tb_cop4, tb_cop5, tb_cop6, tb_cop7, tb_cop8, tb_cop9, tb_cop10, tb_cop11, tb_cop12, tb_ix0, tb_ix1, tb_set0, tb_set1, tb_set2, tb_bc0, tb_bc1, tb_bc2, tb_bc3, tb_bc4, tb_bc5, tb_bc6, tb_bc7, tb_bc8, tb_bc9, tb_bc10, tb_bc11, tb_bc12, tb_bc13, tb_bc14, tb_bc15, tb_bc16, tb_bc17, tb_bc18, tb_lf0, tb_lf1, tb_lf2, tb_lf3, tb_lf4, tb_lf5, tb_lf6, tb_bm0, tb_bm1, tb_bm2, tb_bm3, tb_bm4, tb_it0, tb_it1, tb_it2, tb_it3, tb_it4, tb_spc0, tb_spc1, tb_spc2, lb_bops, lb_augs, lb_cops, lb_ixs, lb_sets, lb_bcs, lb_lfs, lb_bms, lb_its, lb_spcs, lb_cst0, lb_cst1, lb_cst2, lb_cst3, lb_cst4, lb_cst5, lb_cst6, lb_clsA0, lb_clsI0, gSb, pairI, intsW]
    refine ⟨trivial, trivial, in_i (.inl rfl) ⟨_, rfl, ?_⟩⟩
    rw [if_neg Bool.false_ne_true]
    have hlen : kvs.length = ks.length := by
      have := congrArg List.length hk
      rw [List.length_map, List.length_map] at this
      exact this
    by_cases h : p.2 ∈ inner
    · refine (if_pos (decide_eq_true h)).mpr ⟨kvs, .inl p.1, updM_same, rfl, Nat.lt_of_le_of_lt (by omega : _ ≤ 1000) (by decide), ?_⟩
      rw [updM_updM]
      have e : begOf (p :: ps) inner = p.1 :: begOf ps inner := by
        simp [begOf, List.filter_cons, h]
      have hk2 : (putM kvs (.inl p.1) (.bl true)).map (·.1) = (addK ks p.1).map Sum.inl := by
        rw [putM_keys, hk]
        unfold addK
        by_cases hm : p.1 ∈ ks
        · rw [if_pos hm, if_pos (List.mem_map.mpr ⟨_, hm, rfl⟩)]
        · rw [if_neg hm, if_neg fun z => ?_, List.map_append]
          · rfl
          · obtain ⟨a, ha, ea⟩ := List.mem_map.mp z
            injection ea with ea
            subst ea
            exact hm ha
      have hl2 : (addK ks p.1).length ≤ ks.length + 1 := by
        unfold addK
        split
        · omega
        · rw [List.length_append, List.length_singleton]; exact Nat.le_refl _
      refine found_loop (c := c) (n := n) ps (addK ks p.1) _ _ _ hk2 (by omega) fun kvs' x10 x11 hk' => hN kvs' _ _ ?_
      rw [e]
      exact hk'
    · refine (if_neg (by rw [decide_eq_true_eq]; exact h)).mpr ?_
      have e : begOf (p :: ps) inner = begOf ps inner := by
        simp [begOf, List.filter_cons, h]
      refine found_loop (c := c) (n := n) ps ks kvs _ _ hk (by omega) fun kvs' x10 x11 hk' => hN kvs' _ _ ?_
      rw [e]
      exact hk'
theorem sp_members {c : List Addr} {k r : Int} {w : Wd} (hw : WdOk k r w) : ∀ (t : Tm) (n : Nat) (μ : Mem), wfT k r t → tdp t ≤ n → Pu (Gm c n j_members) [worldW w, toW t] μ (intsW (inT w t)) := by
  intro t
  induction t with
  | any =>
    intro n μ hwf hn Q E hq
    obtain ⟨n, rfl⟩ : ∃ j, n = j + 1 := ⟨n - 1, by simp only [tdp] at hn; omega⟩
    refine ⟨rfl, ?_⟩
    show dSs _ _ t_members [some (.tup [.str "world", .int (w.n : Int), .tup (w.ks.map intsW), .tup (w.rs.map prsW)]), some (.tup [.str "any"]), none, none, none, none, none, none, none, none, none, none, none] μ _ _
    have h2 := hw.n2
    simp only [t_members, dSs, dS, dE, dA, dT, dAnds, dOrs, dTAnds, dTOrs, dIfs, dO, dG, dGs, dI, lenGs, sSeq, sIf, sRet, sRetN, sAsg, sDrop, sNext, sPar, sPar3, sBreak, sCont, eVar, eC, eOp, eUn, eChain, eAnd, eOr, eNot, eIte, aNil, aCons, eTup, eLst, eCall, eCB, tVal, tAndM, tOrM, tNotM, eSl, pSome, pNone, eDk0, eDt0, eDkc, gNm, gTp, gNl, gCn, wipeM, List.map_cons, List.map_nil, le_ii, lt_ii, gt_ii, ge_ii, add_ii, sub_ii, iadd_ii, neg_i, len_t, int_i, abs_i, List.getElem?_cons_zero, List.getElem?_cons_succ, List.set_cons_zero, List.set_cons_succ, List.length_cons, List.length_nil, Option.some.injEq, W.bl.injEq, W.int.injEq, W.str.injEq, W.tup.injEq, exists_eq_left', exists_eq_left, ↓reduceIte, Bool.not_true, Bool.not_false, Bool.false_eq_true, if_true, if_false, tb_bop0, tb_bop1, tb_bop2, tb_bop3, tb_bop4, tb_bop5, tb_bop6, tb_aug0, tb_aug1, tb_cop0, tb_cop1, tb_cop2, tb_cop3, tb_cop4, tb_cop5, tb_cop6, tb_cop7, tb_cop8, tb_cop9, tb_cop10, tb_cop11, tb_cop12, tb_ix0, tb_ix1, tb_set0, tb_set1, tb_set2, tb_bc0, tb_bc1, tb_bc2, tb_bc3, tb_bc4, tb_bc5, tb_bc6, tb_bc7, tb_bc8, tb_bc9, tb_bc10, tb_bc11, tb_bc12, tb_bc13, tb_bc14, tb_bc15, tb_bc16, tb_bc17, tb_bc18, tb_lf0, tb_lf1, tb_lf2, tb_lf3, tb_lf4, tb_lf5, tb_lf6, tb_bm0, tb_bm1, tb_bm2, tb_bm3, tb_bm4, tb_it0, tb_it1, tb_it2, tb_it3, tb_it4, tb_spc0, tb_spc1, tb_spc2, lb_bops, lb_augs, lb_cops, lb_ixs, lb_sets, lb_bcs, lb_lfs, lb_bms, lb_its, lb_spcs, lb_cst0, lb_cst1, lb_cst2, lb_cst3, lb_cst4, lb_cst5, lb_cst6, lb_clsA0, lb_clsI0, eLcI, iSq, sFor]
    refine ⟨trivial, trivial, ix_t (i := 0) rfl (o_eqss (b := true) sk_any sk_any (by decide) ⟨_, rfl, (if_pos rfl).mpr ⟨by omega, by omega, Dn.of ?_⟩⟩)⟩
    rw [Int.toNat_natCast, rng_map]
    have e : intsW (inT w .any) = .tup ((List.range w.n).map fun j : Nat => W.int (j : Int)) := by
      show W.tup _ = W.tup _
      rw [inT, List.map_map]; rfl
    rw [e] at hq
    exact hq
  | none =>
    intro n μ hwf hn Q E hq
    obtain ⟨n, rfl⟩ : ∃ j, n = j + 1 := ⟨n - 1, by simp only [tdp] at hn; omega⟩
    refine ⟨rfl, ?_⟩
    show dSs _ _ t_members [some (.tup [.str "world", .int (w.n : Int), .tup (w.ks.map intsW), .tup (w.rs.map prsW)]), some (.tup [.str "none"]), none, none, none, none, none, none, none, none, none, none, none] μ _ _
    simp only [t_members, dSs, dS, dE, dA, dT, dAnds, dOrs, dTAnds, dTOrs, dIfs, dO, dG, dGs, dI, lenGs, sSeq, sIf, sRet, sRetN, sAsg, sDrop, sNext, sPar, sPar3, sBreak, sCont, eVar, eC, eOp, eUn, eChain, eAnd, eOr, eNot, eIte, aNil, aCons, eTup, eLst, eCall, eCB, tVal, tAndM, tOrM, tNotM, eSl, pSome, pNone, eDk0, eDt0, eDkc, gNm, gTp, gNl, gCn, wipeM, List.map_cons, List.map_nil, le_ii, lt_ii, gt_ii, ge_ii, add_ii, sub_ii, iadd_ii, neg_i, len_t, int_i, abs_i, List.getElem?_cons_zero, List.getElem?_cons_succ, List.set_cons_zero, List.set_cons_succ, List.length_cons, List.length_nil, Option.some.injEq, W.bl.injEq, W.int.injEq, W.str.injEq, W.tup.injEq, exists_eq_left', exists_eq_left, ↓reduceIte, Bool.not_true, Bool.not_false, Bool.false_eq_true, if_true, if_false, tb_bop0, tb_bop1, tb_bop2, tb_bop3, tb_bop4, tb_bop5, tb_bop6, tb_aug0, tb_aug1, tb_cop0, tb_cop1, tb_cop2, tb_cop3, tb_cop4, tb_cop5, tb_cop6, tb_cop7, tb_cop8, tb_cop9, tb_cop10, tb_cop11, tb_cop12, tb_ix0, tb_ix1, tb_set0, tb_set1, tb_set2, tb_bc0, tb_bc1, tb_bc2, tb_bc3, tb_bc4, tb_bc5, tb_bc6, tb_bc7, tb_bc8, tb_bc9, tb_bc10, tb_bc11, tb_bc12, tb_bc13, tb_bc14, tb_bc15, tb_bc16, tb_bc17, tb_bc18, tb_lf0, tb_lf1, tb_lf2, tb_lf3, tb_lf4, tb_lf5, tb_lf6, tb_bm0, tb_bm1, tb_bm2, tb_bm3, tb_bm4, tb_it0, tb_it1, tb_it2, tb_it3, tb_it4, tb_spc0, tb_spc1, tb_spc2, lb_bops, lb_augs, lb_cops, lb_ixs, lb_sets, lb_bcs, lb_lfs, lb_bms, lb_its, lb_spcs, lb_cst0, lb_cst1, lb_cst2, lb_cst3, lb_cst4, lb_cst5, lb_cst6, lb_clsA0, lb_clsI0, eLcI, iSq, sFor]
    exact ⟨trivial, trivial, ix_t (i := 0) rfl (o_eqss (b := false) sk_none sk_any (by decide +kernel) ⟨_, rfl, (if_neg (by decide)).mpr (ix_t (i := 0) rfl (o_eqss (b := true) sk_none sk_none (by decide) ⟨_, rfl, (if_pos rfl).mpr ⟨Nat.zero_le _, Dn.of hq⟩⟩))⟩)⟩
  | var v => exact fun n μ hwf => hwf.elim
  | kind j =>
    intro n μ hwf hn Q E hq
    obtain ⟨n, rfl⟩ : ∃ j, n = j + 1 := ⟨n - 1, by simp only [tdp] at hn; omega⟩
    refine ⟨rfl, ?_⟩
    show dSs _ _ t_members [some (.tup [.str "world", .int (w.n : Int), .tup (w.ks.map intsW), .tup (w.rs.map prsW)]), some (.tup [.str "kind", .int j]), none, none, none, none, none, none, none, none, none, none, none] μ _ _
    obtain ⟨l, e1, e2⟩ := kind_at hw hwf.1 hwf.2
    simp only [t_members, dSs, dS, dE, dA, dT, dAnds, dOrs, dTAnds, dTOrs, dIfs, dO, dG, dGs, dI, lenGs, sSeq, sIf, sRet, sRetN, sAsg, sDrop, sNext, sPar, sPar3, sBreak, sCont, eVar, eC, eOp, eUn, eChain, eAnd, eOr, eNot, eIte, aNil, aCons, eTup, eLst, eCall, eCB, tVal, tAndM, tOrM, tNotM, eSl, pSome, pNone, eDk0, eDt0, eDkc, gNm, gTp, gNl, gCn, wipeM, List.map_cons, List.map_nil, le_ii, lt_ii, gt_ii, ge_ii, add_ii, sub_ii, iadd_ii, neg_i, len_t, int_i, abs_i, List.getElem?_cons_zero, List.getElem?_cons_succ, List.set_cons_zero, List.set_cons_succ, List.length_cons, List.length_nil, Option.some.injEq, W.bl.injEq, W.int.injEq, W.str.injEq, W.tup.injEq, exists_eq_left', exists_eq_left, ↓reduceIte, Bool.not_true, Bool.not_false, Bool.false_eq_true, if_true, if_false, tb_bop0, tb_bop1, tb_bop2, tb_bop3, tb_bop4, tb_bop5, tb_bop6, tb_aug0, tb_aug1, tb_cop0, tb_cop1, tb_cop2, tb_cop3, tb_cop4, tb_cop5, tb_cop6, tb_cop7, tb_cop8, tb_cop9, tb_cop10, tb_cop11, tb_cop12, tb_ix0, tb_ix1, tb_set0, tb_set1, tb_set2, tb_bc0, tb_bc1, tb_bc2, tb_bc3, tb_bc4, tb_bc5, tb_bc6, tb_bc7, tb_bc8, tb_bc9, tb_bc10, tb_bc11, tb_bc12, tb_bc13, tb_bc14, tb_bc15, tb_bc16, tb_bc17, tb_bc18, tb_lf0, tb_lf1, tb_lf2, tb_lf3, tb_lf4, tb_lf5, tb_lf6, tb_bm0, tb_bm1, tb_bm2, tb_bm3, tb_bm4, tb_it0, tb_it1, tb_it2, tb_it3, tb_it4, tb_spc0, tb_spc1, tb_spc2, lb_bops, lb_augs, lb_cops, lb_ixs, lb_sets, lb_bcs, lb_lfs, lb_bms, lb_its, lb_spcs, lb_cst0, lb_cst1, lb_cst2, lb_cst3, lb_cst4, lb_cst5, lb_cst6, lb_clsA0, lb_clsI0, eLcI, iSq, sFor]
    refine ⟨trivial, trivial, ix_t (i := 0) rfl (o_eqss (b := false) sk_kind sk_any (by decide +kernel) ⟨_, rfl, (if_neg (by decide)).mpr (ix_t (i := 0) rfl (o_eqss (b := false) sk_kind sk_none (by decide +kernel) ⟨_, rfl, (if_neg (by decide)).mpr (ix_t (i := 0) rfl (o_eqss (b := true) sk_kind sk_kind (by decide) ⟨_, rfl, (if_pos rfl).mpr (ix_t (i := 1) rfl (ix_tn hwf.1 (w := intsW l) (by rw [List.getElem?_map, e1]; rfl) (Dn.of ?_)))⟩))⟩))⟩)⟩
    have e : inT w (.kind j) = l := e2
    rw [e] at hq
    exact hq
  | both a b iha ihb =>
    intro n μ hwf hn Q E hq
    obtain ⟨n, rfl⟩ : ∃ j, n = j + 1 := ⟨n - 1, by simp only [tdp] at hn; omega⟩
    simp only [tdp] at hn
    refine ⟨rfl, ?_⟩
    show dSs _ _ t_members [some (.tup [.str "world", .int (w.n : Int), .tup (w.ks.map intsW), .tup (w.rs.map prsW)]), some (.tup [.str "both", toW a, toW b]), none, none, none, none, none, none, none, none, none, none, none] μ _ _
    have hl := inT_len hw a
    simp only [t_members, dSs, dS, dE, dA, dT, dAnds, dOrs, dTAnds, dTOrs, dIfs, dO, dG, dGs, dI, lenGs, sSeq, sIf, sRet, sRetN, sAsg, sDrop, sNext, sPar, sPar3, sBreak, sCont, eVar, eC, eOp, eUn, eChain, eAnd, eOr, eNot, eIte, aNil, aCons, eTup, eLst, eCall, eCB, tVal, tAndM, tOrM, tNotM, eSl, pSome, pNone, eDk0, eDt0, eDkc, gNm, gTp, gNl, gCn, wipeM, List.map_cons, List.map_nil, le_ii, lt_ii, gt_ii, ge_ii, add_ii, sub_ii, iadd_ii, neg_i, len_t, int_i, abs_i, List.getElem?_cons_zero, List.getElem?_cons_succ, List.set_cons_zero, List.set_cons_succ, List.length_cons, List.length_nil, Option.some.injEq, W.bl.injEq, W.int.injEq, W.str.injEq, W.tup.injEq, exists_eq_left', exists_eq_left, ↓reduceIte, Bool.not_true, Bool.not_false, Bool.false_eq_true, if_true, if_false, tb_bop0, tb_bop1, tb_bop2, tb_bop3, tb_bop4, tb_bop5, tb_bop6, tb_aug0, tb_aug1, tb_cop0, tb_cop1, tb_cop2, tb_cop3, tb_cop4, tb_cop5, tb_cop6, tb_cop7, tb_cop8, tb_cop9, tb_cop10, tb_cop11, tb_cop12, tb_ix0, tb_ix1, tb_set0, tb_set1, tb_set2, tb_bc0, tb_bc1, tb_bc2, tb_bc3, tb_bc4, tb_bc5, tb_bc6, tb_bc7, tb_bc8, tb_bc9, tb_bc10, tb_bc11, tb_bc12, tb_bc13, tb_bc14, tb_bc15, tb_bc16, tb_bc17, tb_bc18, tb_lf0, tb_lf1, tb_lf2, tb_lf3, tb_lf4, tb_lf5, tb_lf6, tb_bm0, tb_bm1, tb_bm2, tb_bm3, tb_bm4, tb_it0, tb_it1, tb_it2, tb_it3, tb_it4, tb_spc0, tb_spc1, tb_spc2, lb_bops, lb_augs, lb_cops, lb_ixs, lb_sets, lb_bcs, lb_lfs, lb_bms, lb_its, lb_spcs, lb_cst0, lb_cst1, lb_cst2, lb_cst3, lb_cst4, lb_cst5, lb_cst6, lb_clsA0, lb_clsI0, eLcI, iSq, sFor]
    refine ⟨trivial, trivial, ix_t (i := 0) rfl (o_eqss (b := false) sk_both sk_any (by decide +kernel) ⟨_, rfl, (if_neg (by decide)).mpr (ix_t (i := 0) rfl (o_eqss (b := false) sk_both sk_none (by decide +kernel) ⟨_, rfl, (if_neg (by decide)).mpr (ix_t (i := 0) rfl (o_eqss (b := false) sk_both sk_kind (by decide +kernel) ⟨_, rfl, (if_neg (by decide)).mpr (ix_t (i := 0) rfl (o_eqss (b := true) sk_both sk_both (by decide) ⟨_, rfl, (if_pos rfl).mpr (ix_t (i := 1) rfl (call_pu (iha n μ hwf.1 (by omega)) (ix_t (i := 2) rfl (call_pu (ihb n μ hwf.2 (by omega)) ?_))))⟩))⟩))⟩))⟩)⟩
    dsimp only [intsW]
    refine loopC_pure (fun v => decide (intW v ∈ inT w b)) id trivial _ _ (fun v hv Q' q => ?_) (fun v hv hP Q' q => ?_) (le_line (by rw [List.length_nil, List.length_map]; omega)) ?_
    · obtain ⟨i, hi, rfl⟩ := List.mem_map.mp hv
      simp only [dSs, dS, dE, dA, dT, dAnds, dOrs, dTAnds, dTOrs, dIfs, dO, dG, dGs, dI, lenGs, sSeq, sIf, sRet, sRetN, sAsg, sDrop, sNext, sPar, sPar3, sBreak, sCont, eVar, eC, eOp, eUn, eChain, eAnd, eOr, eNot, eIte, aNil, aCons, eTup, eLst, eCall, eCB, tVal, tAndM, tOrM, tNotM, eSl, pSome, pNone, eDk0, eDt0, eDkc, gNm, gTp, gNl, gCn, wipeM, List.map_cons, List.map_nil, le_ii, lt_ii, gt_ii, ge_ii, add_ii, sub_ii, iadd_ii, neg_i, len_t, int_i, abs_i, List.getElem?_cons_zero, List.getElem?_cons_succ, List.set_cons_zero, List.set_cons_succ, List.length_cons, List.length_nil, Option.some.injEq, W.bl.injEq, W.int.injEq, W.str.injEq, W.tup.injEq, exists_eq_left', exists_eq_left, ↓reduceIte, Bool.not_true, Bool.not_false, Bool.false_eq_true, if_true, if_false, tb_bop0, tb_bop1, tb_bop2, tb_bop3, tb_bop4, tb_bop5, tb_bop6, tb_aug0, tb_aug1, tb_cop0, tb_cop1, tb_cop2, tb_cop3, tb_cop4, tb_cop5, tb_cop6, tb_cop7, tb_cop8, tb_cop9, tb_cop10, tb_cop11, tb_cop12, tb_ix0, tb_ix1, tb_set0, tb_set1, tb_set2, tb_bc0, tb_bc1, tb_bc2, tb_bc3, tb_bc4, tb_bc5, tb_bc6, tb_bc7, tb_bc8, tb_bc9, tb_bc10, tb_bc11, tb_bc12, tb_bc13, tb_bc14, tb_bc15, tb_bc16, tb_bc17, tb_bc18, tb_lf0, tb_lf1, tb_lf2, tb_lf3, tb_lf4, tb_lf5, tb_lf6, tb_bm0, tb_bm1, tb_bm2, tb_bm3, tb_bm4, tb_it0, tb_it1, tb_it2, tb_it3, tb_it4, tb_spc0, tb_spc1, tb_spc2, lb_bops, lb_augs, lb_cops, lb_ixs, lb_sets, lb_bcs, lb_lfs, lb_bms, lb_its, lb_spcs, lb_cst0, lb_cst1, lb_cst2, lb_cst3, lb_cst4, lb_cst5, lb_cst6, lb_clsA0, lb_clsI0]
      exact in_i (.inl rfl) ⟨_, rfl, q⟩
    · simp only [dSs, dS, dE, dA, dT, dAnds, dOrs, dTAnds, dTOrs, dIfs, dO, dG, dGs, dI, lenGs, sSeq, sIf, sRet, sRetN, sAsg, sDrop, sNext, sPar, sPar3, sBreak, sCont, eVar, eC, eOp, eUn, eChain, eAnd, eOr, eNot, eIte, aNil, aCons, eTup, eLst, eCall, eCB, tVal, tAndM, tOrM, tNotM, eSl, pSome, pNone, eDk0, eDt0, eDkc, gNm, gTp, gNl, gCn, wipeM, List.map_cons, List.map_nil, le_ii, lt_ii, gt_ii, ge_ii, add_ii, sub_ii, iadd_ii, neg_i, len_t, int_i, abs_i, List.getElem?_cons_zero, List.getElem?_cons_succ, List.set_cons_zero, List.set_cons_succ, List.length_cons, List.length_nil, Option.some.injEq, W.bl.injEq, W.int.injEq, W.str.injEq, W.tup.injEq, exists_eq_left', exists_eq_left, ↓reduceIte, Bool.not_true, Bool.not_false, Bool.false_eq_true, if_true, if_false, tb_bop0, tb_bop1, tb_bop2, tb_bop3, tb_bop4, tb_bop5, tb_bop6, tb_aug0, tb_aug1, tb_cop0, tb_cop1, tb_cop2, tb_cop3, tb_cop4, tb_cop5, tb_cop6, tb_cop7, tb_cop8, tb_cop9, tb_cop10, tb_cop11, tb_cop12, tb_ix0, tb_ix1, tb_set0, tb_set1, tb_set2, tb_bc0, tb_bc1, tb_bc2, tb_bc3, tb_bc4, tb_bc5, tb_bc6, tb_bc7, tb_bc8, tb_bc9, tb_bc10, tb_bc11, tb_bc12, tb_bc13, tb_bc14, tb_bc15, tb_bc16, tb_bc17, tb_bc18, tb_lf0, tb_lf1, tb_lf2, tb_lf3, tb_lf4, tb_lf5, tb_lf6, tb_bm0, tb_bm1, tb_bm2, tb_bm3, tb_bm4, tb_it0, tb_it1, tb_it2, tb_it3, tb_it4, tb_spc0, tb_spc1, tb_spc2, lb_bops, lb_augs, lb_cops, lb_ixs, lb_sets, lb_bcs, lb_lfs, lb_bms, lb_its, lb_spcs, lb_cst0, lb_cst1, lb_cst2, lb_cst3, lb_cst4, lb_cst5, lb_cst6, lb_clsA0, lb_clsI0]
      exact q
    · rw [List.nil_append, List.map_id]
      have e : ((inT w a).map W.int).filter (fun v => decide (intW v ∈ inT w b)) = (inT w (.both a b)).map W.int := by
        rw [List.filter_map]; rfl
      rw [e]
      exact Dn.of hq
  | some j t iht =>
    intro n μ hwf hn Q E hq
    obtain ⟨n, rfl⟩ : ∃ j, n = j + 1 := ⟨n - 1, by simp only [tdp] at hn; omega⟩
    simp only [tdp] at hn
    refine ⟨rfl, ?_⟩
    show dSs _ _ t_members [Option.some (.tup [.str "world", .int (w.n : Int), .tup (w.ks.map intsW), .tup (w.rs.map prsW)]), Option.some (.tup [.str "some", .int j, toW t]), Option.none, Option.none, Option.none, Option.none, Option.none, Option.none, Option.none, Option.none, Option.none, Option.none, Option.none] μ _ _
    obtain ⟨ps, e1, e2, hps⟩ := role_at hw hwf.1 hwf.2.1
    have hpl := hps.len
    have lp := fun (d : Addr) x0 x1 x4 x5 x6 x7 x8 x9 x12 DD E μ => found_loop (c := c) (n := n) (d := d) (inner := inT w t) (x0 := x0) (x1 := x1) (x4 := x4) (x5 := x5) (x6 := x6) (x7 := x7) (x8 := x8) (x9 := x9) (x12 := x12) (DD := DD) (E := E) (μ := μ) ps [] [] Option.none Option.none rfl (by rw [List.length_nil]; omega)
    simp only [t_members, forS, dropS, dSs, dS, dE, dA, dT, dAnds, dOrs, dTAnds, dTOrs, dIfs, dO, dG, dGs, dI, lenGs, sSeq, sIf, sRet, sRetN, sAsg, sDrop, sNext, sPar, sPar3, sBreak, sCont, eVar, eC, eOp, eUn, eChain, eAnd, eOr, eNot, eIte, aNil, aCons, eTup, eLst, eCall, eCB, tVal, tAndM, tOrM, tNotM, eSl, pSome, pNone, eDk0, eDt0, eDkc, gNm, gTp, gNl, gCn, wipeM, List.map_cons, List.map_nil, le_ii, lt_ii, gt_ii, ge_ii, add_ii, sub_ii, iadd_ii, neg_i, len_t, int_i, abs_i, List.getElem?_cons_zero, List.getElem?_cons_succ, List.set_cons_zero, List.set_cons_succ, List.length_cons, List.length_nil, Option.some.injEq, W.bl.injEq, W.int.injEq, W.str.injEq, W.tup.injEq, exists_eq_left', exists_eq_left, ↓reduceIte, Bool.not_true, Bool.not_false, Bool.false_eq_true, if_true, if_false, tb_bop0, tb_bop1, tb_bop2, tb_bop3, tb_bop4, tb_bop5, tb_bop6, tb_aug0, tb_aug1, tb_cop0, tb_cop1, tb_cop2, tb_cop3, tb_cop4, tb_cop5, tb_cop6, tb_cop7, tb_cop8, tb_cop9, tb_cop10, tb_cop11, tb_cop12, tb_ix0, tb_ix1, tb_set0, tb_set1, tb_set2, tb_bc0, tb_bc1, tb_bc2, tb_bc3, tb_bc4, tb_bc5, tb_bc6, tb_bc7, tb_bc8, tb_bc9, tb_bc10, tb_bc11, tb_bc12, tb_bc13, tb_bc14, tb_bc15, tb_bc16, tb_bc17, tb_bc18, tb_lf0, tb_lf1, tb_lf2, tb_lf3, tb_lf4, tb_lf5, tb_lf6, tb_bm0, tb_bm1, tb_bm2, tb_bm3, tb_bm4, tb_it0, tb_it1, tb_it2, tb_it3, tb_it4, tb_spc0, tb_spc1, tb_spc2, lb_bops, lb_augs, lb_cops, lb_ixs, lb_sets, lb_bcs, lb_lfs, lb_bms, lb_its, lb_spcs, lb_cst0, lb_cst1, lb_cst2, lb_cst3, lb_cst4, lb_cst5, lb_cst6, lb_clsA0, lb_clsI0, gSb] at lp
    simp only [t_members, dSs, dS, dE, dA, dT, dAnds, dOrs, dTAnds, dTOrs, dIfs, dO, dG, dGs, dI, lenGs, sSeq, sIf, sRet, sRetN, sAsg, sDrop, sNext, sPar, sPar3, sBreak, sCont, eVar, eC, eOp, eUn, eChain, eAnd, eOr, eNot, eIte, aNil, aCons, eTup, eLst, eCall, eCB, tVal, tAndM, tOrM, tNotM, eSl, pSome, pNone, eDk0, eDt0, eDkc, gNm, gTp, gNl, gCn, wipeM, List.map_cons, List.map_nil, le_ii, lt_ii, gt_ii, ge_ii, add_ii, sub_ii, iadd_ii, neg_i, len_t, int_i, abs_i, List.getElem?_cons_zero, List.getElem?_cons_succ, List.set_cons_zero, List.set_cons_succ, List.length_cons, List.length_nil, Option.some.injEq, W.bl.injEq, W.int.injEq, W.str.injEq, W.tup.injEq, exists_eq_left', exists_eq_left, ↓reduceIte, Bool.not_true, Bool.not_false, Bool.false_eq_true, if_true, if_false, tb_bop0, tb_bop1, tb_bop2, tb_bop3, tb_bop4, tb_bop5, tb_bop6, tb_aug0, tb_aug1, tb_cop0, tb_cop1, tb_cop2, tb_cop3, tb_cop4, tb_cop5, tb_cop6, tb_cop7, tb_cop8, tb_cop9, tb_cop10, tb_cop11, tb_cop12, tb_ix0, tb_ix1, tb_set0, tb_set1, tb_set2, tb_bc0, tb_bc1, tb_bc2, tb_bc3, tb_bc4, tb_bc5, tb_bc6, tb_bc7, tb_bc8, tb_bc9, tb_bc10, tb_bc11, tb_bc12, tb_bc13, tb_bc14, tb_bc15, tb_bc16, tb_bc17, tb_bc18, tb_lf0, tb_lf1, tb_lf2, tb_lf3, tb_lf4, tb_lf5, tb_lf6, tb_bm0, tb_bm1, tb_bm2, tb_bm3, tb_bm4, tb_it0, tb_it1, tb_it2, tb_it3, tb_it4, tb_spc0, tb_spc1, tb_spc2, lb_bops, lb_augs, lb_cops, lb_ixs, lb_sets, lb_bcs, lb_lfs, lb_bms, lb_its, lb_spcs, lb_cst0, lb_cst1, lb_cst2, lb_cst3, lb_cst4, lb_cst5, lb_cst6, lb_clsA0, lb_clsI0, eLcI, iSq, sFor, gSb]
    refine ⟨trivial, trivial, ix_t (i := 0) rfl (o_eqss (b := false) sk_some sk_any (by decide +kernel) ⟨_, rfl, (if_neg (by decide)).mpr (ix_t (i := 0) rfl (o_eqss (b := false) sk_some sk_none (by decide +kernel) ⟨_, rfl, (if_neg (by decide)).mpr (ix_t (i := 0) rfl (o_eqss (b := false) sk_some sk_kind (by decide +kernel) ⟨_, rfl, (if_neg (by decide)).mpr (ix_t (i := 0) rfl (o_eqss (b := false) sk_some sk_both (by decide +kernel) ⟨_, rfl, (if_neg (by decide)).mpr (ix_t (i := 2) rfl (call_pu (iht n μ hwf.2.2 (by omega)) fun d hd => ix_t (i := 1) rfl (ix_tn hwf.1 (w := prsW ps) (by rw [List.getElem?_map, e1]; rfl) ?_)))⟩))⟩))⟩))⟩)⟩
    dsimp only [prsW]
    refine lp d _ _ _ _ _ _ _ _ _ _ _ μ fun kvs x10 x11 hk => ?_
    have hdl := ded_len (begOf ps (inT w t)) ([] : List Int)
    have hbl := beg_len ps (inT w t)
    rw [List.length_nil] at hdl
    simp only [dSs, dS, dE, dA, dT, dAnds, dOrs, dTAnds, dTOrs, dIfs, dO, dG, dGs, dI, lenGs, sSeq, sIf, sRet, sRetN, sAsg, sDrop, sNext, sPar, sPar3, sBreak, sCont, eVar, eC, eOp, eUn, eChain, eAnd, eOr, eNot, eIte, aNil, aCons, eTup, eLst, eCall, eCB, tVal, tAndM, tOrM, tNotM, eSl, pSome, pNone, eDk0, eDt0, eDkc, gNm, gTp, gNl, gCn, wipeM, List.map_cons, List.map_nil, le_ii, lt_ii, gt_ii, ge_ii, add_ii, sub_ii, iadd_ii, neg_i, len_t, int_i, abs_i, List.getElem?_cons_zero, List.getElem?_cons_succ, List.set_cons_zero, List.set_cons_succ, List.length_cons, List.length_nil, Option.some.injEq, W.bl.injEq, W.int.injEq, W.str.injEq, W.tup.injEq, exists_eq_left', exists_eq_left, ↓reduceIte, Bool.not_true, Bool.not_false, Bool.false_eq_true, if_true, if_false, tb_bop0, tb_bop1, tb_bop2, tb_bop3, tb_bop4, tb_bop5, tb_bop6, tb_aug0, tb_aug1, tb_cop0, tb_cop1, tb_cop2, tb_cop3, tb_cop4, tb_cop5, tb_cop6, tb_cop7, tb_cop8, tb_cop9, tb_cop10, tb_cop11, tb_cop12, tb_ix0, tb_ix1, tb_set0, tb_set1, tb_set2, tb_bc0, tb_bc1, tb_bc2, tb_bc3, tb_bc4, tb_bc5, tb_bc6, tb_bc7, tb_bc8, tb_bc9, tb_bc10, tb_bc11, tb_bc12, tb_bc13, tb_bc14, tb_bc15, tb_bc16, tb_bc17, tb_bc18, tb_lf0, tb_lf1, tb_lf2, tb_lf3, tb_lf4, tb_lf5, tb_lf6, tb_bm0, tb_bm1, tb_bm2, tb_bm3, tb_bm4, tb_it0, tb_it1, tb_it2, tb_it3, tb_it4, tb_spc0, tb_spc1, tb_spc2, lb_bops, lb_augs, lb_cops, lb_ixs, lb_sets, lb_bcs, lb_lfs, lb_bms, lb_its, lb_spcs, lb_cst0, lb_cst1, lb_cst2, lb_cst3, lb_cst4, lb_cst5, lb_cst6, lb_clsA0, lb_clsI0]
    refine ⟨kvs, ded [] (begOf ps (inT w t)), updM_same, hk, by omega, fun ys h1 h2 g hg => tup_l updM_same ?_⟩
    have e : intsW (inT w (.some j t)) = .tup (ys.map W.int) := by
      show W.tup _ = W.tup _
      rw [inT, e2, ← begs_eq hps h1 h2]
    rw [e] at hq
    refine Dn.sub (fun a o ha => ?_) hq
    have n1 : a ≠ d := fun z => by subst z; rw [hd] at ha; cases ha
    have h3 : (updM μ d (.dk kvs)) a = Option.some o := by rw [updM_ne n1]; exact ha
    have n2 : a ≠ g := fun z => by subst z; rw [h3] at hg; cases hg
    rw [updM_ne n2]
    exact h3
end K01
set_option Elab.async false
set_option autoImplicit false
set_option linter.all false
set_option maxRecDepth 100000
namespace K01
open PySem PySem.Spec PyProof.Rows L2 MP
section
variable {c : List Addr} {n : Nat} {pb : Addr} {L : Nat} {v : W} {m : Int} {μ : Mem}
theorem all_dec (l : List W) (P : W → Bool) : (l.map fun w => W.bl (P w)) = (l.map P).map W.bl := by rw [List.map_map]; rfl
theorem sp_are_things (hL : L ≤ 1000) (hv : Vl pb μ L v) : Pu (Gm c (n + 2) j_are_things) [v, .int m] μ (.bl (isThg m v)) := fun Q E hq => by
  refine ⟨rfl, ?_⟩
  show dSs _ _ t_are_things [some v, some (.int m), none] μ _ _
  simp only [t_are_things, dSs, dS, dE, dA, dT, dAnds, dOrs, dTAnds, dTOrs, dIfs, dO, dG, dGs, dI, lenGs, sSeq, sIf, sRet, sRetN, sAsg, sDrop, sNext, sPar, sPar3, sBreak, sCont, eVar, eC, eOp, eUn, eChain, eAnd, eOr, eNot, eIte, aNil, aCons, eTup, eLst, eCall, eCB, tVal, tAndM, tOrM, tNotM, eSl, pSome, pNone, eDk0, eDt0, eDkc, gNm, gTp, gNl, gCn, wipeM, List.map_cons, List.map_nil, le_ii, lt_ii, gt_ii, ge_ii, add_ii, sub_ii, iadd_ii, neg_i, len_t, int_i, abs_i, List.getElem?_cons_zero, List.getElem?_cons_succ, List.set_cons_zero, List.set_cons_succ, List.length_cons, List.length_nil, Option.some.injEq, W.bl.injEq, W.int.injEq, W.str.injEq, W.tup.injEq, exists_eq_left', exists_eq_left, ↓reduceIte, Bool.not_true, Bool.not_false, Bool.false_eq_true, if_true, if_false, tb_bop0, tb_bop1, tb_bop2, tb_bop3, tb_bop4, tb_bop5, tb_bop6, tb_aug0, tb_aug1, tb_cop0, tb_cop1, tb_cop2, tb_cop3, tb_cop4, tb_cop5, tb_cop6, tb_cop7, tb_cop8, tb_cop9, tb_cop10, tb_cop11, tb_cop12, tb_ix0, tb_ix1, tb_set0, tb_set1, tb_set2, tb_bc0, tb_bc1, tb_bc2, tb_bc3, tb_bc4, tb_bc5, tb_bc6, tb_bc7, tb_bc8, tb_bc9, tb_bc10, tb_bc11, tb_bc12, tb_bc13, tb_bc14, tb_bc15, tb_bc16, tb_bc17, tb_bc18, tb_lf0, tb_lf1, tb_lf2, tb_lf3, tb_lf4, tb_lf5, tb_lf6, tb_bm0, tb_bm1, tb_bm2, tb_bm3, tb_bm4, tb_it0, tb_it1, tb_it2, tb_it3, tb_it4, tb_spc0, tb_spc1, tb_spc2, lb_bops, lb_augs, lb_cops, lb_ixs, lb_sets, lb_bcs, lb_lfs, lb_bms, lb_its, lb_spcs, lb_cst0, lb_cst1, lb_cst2, lb_cst3, lb_cst4, lb_cst5, lb_cst6, lb_clsA0, lb_clsI0, eLcI, iSq]
  refine isi_tupV hv ⟨_, rfl, ?_⟩
  cases hv with
  | tup ws h hl =>
    refine (if_pos rfl).mpr ?_
    refine loopC_all (fun w => .bl (isInt w 0 (m - 1))) trivial _ _ (fun w hw Q' q => ?_) (le_line (by rw [List.length_nil]; omega)) ?_
    · simp only [dSs, dS, dE, dA, dT, dAnds, dOrs, dTAnds, dTOrs, dIfs, dO, dG, dGs, dI, lenGs, sSeq, sIf, sRet, sRetN, sAsg, sDrop, sNext, sPar, sPar3, sBreak, sCont, eVar, eC, eOp, eUn, eChain, eAnd, eOr, eNot, eIte, aNil, aCons, eTup, eLst, eCall, eCB, tVal, tAndM, tOrM, tNotM, eSl, pSome, pNone, eDk0, eDt0, eDkc, gNm, gTp, gNl, gCn, wipeM, List.map_cons, List.map_nil, le_ii, lt_ii, gt_ii, ge_ii, add_ii, sub_ii, iadd_ii, neg_i, len_t, int_i, abs_i, List.getElem?_cons_zero, List.getElem?_cons_succ, List.set_cons_zero, List.set_cons_succ, List.length_cons, List.length_nil, Option.some.injEq, W.bl.injEq, W.int.injEq, W.str.injEq, W.tup.injEq, exists_eq_left', exists_eq_left, ↓reduceIte, Bool.not_true, Bool.not_false, Bool.false_eq_true, if_true, if_false, tb_bop0, tb_bop1, tb_bop2, tb_bop3, tb_bop4, tb_bop5, tb_bop6, tb_aug0, tb_aug1, tb_cop0, tb_cop1, tb_cop2, tb_cop3, tb_cop4, tb_cop5, tb_cop6, tb_cop7, tb_cop8, tb_cop9, tb_cop10, tb_cop11, tb_cop12, tb_ix0, tb_ix1, tb_set0, tb_set1, tb_set2, tb_bc0, tb_bc1, tb_bc2, tb_bc3, tb_bc4, tb_bc5, tb_bc6, tb_bc7, tb_bc8, tb_bc9, tb_bc10, tb_bc11, tb_bc12, tb_bc13, tb_bc14, tb_bc15, tb_bc16, tb_bc17, tb_bc18, tb_lf0, tb_lf1, tb_lf2, tb_lf3, tb_lf4, tb_lf5, tb_lf6, tb_bm0, tb_bm1, tb_bm2, tb_bm3, tb_bm4, tb_it0, tb_it1, tb_it2, tb_it3, tb_it4, tb_spc0, tb_spc1, tb_spc2, lb_bops, lb_augs, lb_cops, lb_ixs, lb_sets, lb_bcs, lb_lfs, lb_bms, lb_its, lb_spcs, lb_cst0, lb_cst1, lb_cst2, lb_cst3, lb_cst4, lb_cst5, lb_cst6, lb_clsA0, lb_clsI0]
      exact call_pu (sp_is_integer (h w hw)) q
    · rw [List.nil_append]
      refine ⟨ws.map fun w => isInt w 0 (m - 1), all_dec _ _, _, rfl, ?_⟩
      rw [List.all_map]
      have e : isThg m (.tup ws) = ((ws.all fun w => isInt w 0 (m - 1)) && ascB ltI (ws.map intW)) := rfl
      rw [e] at hq
      by_cases hA : (ws.all fun w => isInt w 0 (m - 1)) = true
      · have hA' : (ws.all (id ∘ fun w => isInt w 0 (m - 1))) = true := hA
        rw [hA', if_pos rfl]
        rw [hA, Bool.true_and] at hq
        obtain ⟨is, rfl, _⟩ := ints_inv hA
        rw [ints_back] at hq
        exact call_pu (sp_are_asc (f := W.int) (R := ltI) (fun a b Q q => lt_iB q) (by rw [List.length_map] at hl; omega)) (Dn.of hq)
      · have hA1 : (ws.all fun w => isInt w 0 (m - 1)) = false := by simpa using hA
        have hA' : (ws.all (id ∘ fun w => isInt w 0 (m - 1))) = false := hA1
        rw [hA', if_neg (by decide)]
        rw [hA1, Bool.false_and] at hq
        exact Dn.of hq
  | _ => exact (if_neg (by simp [isTup])).mpr (Dn.of hq)
theorem sp_are_pairs (hL : L ≤ 1000) (hv : Vl pb μ L v) : Pu (Gm c (n + 2) j_are_pairs) [v, .int m] μ (.bl (isPrs m v)) := fun Q E hq => by
  refine ⟨rfl, ?_⟩
  show dSs _ _ t_are_pairs [some v, some (.int m), none, none] μ _ _
  simp only [t_are_pairs, dSs, dS, dE, dA, dT, dAnds, dOrs, dTAnds, dTOrs, dIfs, dO, dG, dGs, dI, lenGs, sSeq, sIf, sRet, sRetN, sAsg, sDrop, sNext, sPar, sPar3, sBreak, sCont, eVar, eC, eOp, eUn, eChain, eAnd, eOr, eNot, eIte, aNil, aCons, eTup, eLst, eCall, eCB, tVal, tAndM, tOrM, tNotM, eSl, pSome, pNone, eDk0, eDt0, eDkc, gNm, gTp, gNl, gCn, wipeM, List.map_cons, List.map_nil, le_ii, lt_ii, gt_ii, ge_ii, add_ii, sub_ii, iadd_ii, neg_i, len_t, int_i, abs_i, List.getElem?_cons_zero, List.getElem?_cons_succ, List.set_cons_zero, List.set_cons_succ, List.length_cons, List.length_nil, Option.some.injEq, W.bl.injEq, W.int.injEq, W.str.injEq, W.tup.injEq, exists_eq_left', exists_eq_left, ↓reduceIte, Bool.not_true, Bool.not_false, Bool.false_eq_true, if_true, if_false, tb_bop0, tb_bop1, tb_bop2, tb_bop3, tb_bop4, tb_bop5, tb_bop6, tb_aug0, tb_aug1, tb_cop0, tb_cop1, tb_cop2, tb_cop3, tb_cop4, tb_cop5, tb_cop6, tb_cop7, tb_cop8, tb_cop9, tb_cop10, tb_cop11, tb_cop12, tb_ix0, tb_ix1, tb_set0, tb_set1, tb_set2, tb_bc0, tb_bc1, tb_bc2, tb_bc3, tb_bc4, tb_bc5, tb_bc6, tb_bc7, tb_bc8, tb_bc9, tb_bc10, tb_bc11, tb_bc12, tb_bc13, tb_bc14, tb_bc15, tb_bc16, tb_bc17, tb_bc18, tb_lf0, tb_lf1, tb_lf2, tb_lf3, tb_lf4, tb_lf5, tb_lf6, tb_bm0, tb_bm1, tb_bm2, tb_bm3, tb_bm4, tb_it0, tb_it1, tb_it2, tb_it3, tb_it4, tb_spc0, tb_spc1, tb_spc2, lb_bops, lb_augs, lb_cops, lb_ixs, lb_sets, lb_bcs, lb_lfs, lb_bms, lb_its, lb_spcs, lb_cst0, lb_cst1, lb_cst2, lb_cst3, lb_cst4, lb_cst5, lb_cst6, lb_clsA0, lb_clsI0, eLcI, iSq, sFor]
  refine isi_tupV hv ⟨_, rfl, ?_⟩
  cases hv with
  | tup ws h hl =>
    refine (if_neg (by simp [isTup])).mpr ?_
    have e : isPrs m (.tup ws) = (ws.all (isPr m) && ascB SrtO.lexB (ws.map prOf)) := rfl
    rw [e] at hq
    refine loopF_ret (fun ρ μ' => μ' = μ ∧ ∃ x2 x3, ρ = [some (.tup ws), some (.int m), x2, x3]) (isPr m) (.bl false) (fun _ _ _ => trivial) _ _ _ ⟨rfl, _, _, rfl⟩ (fun w hw ρ μ' hI N h1 h2 => ?_) (fun hA ρ' μ' hI => ?_) fun hF ρ' μ' hI => ?_
    · obtain ⟨rfl, x2, x3, rfl⟩ := hI
      have hvw := h w hw
      simp only [dSs, dS, dE, dA, dT, dAnds, dOrs, dTAnds, dTOrs, dIfs, dO, dG, dGs, dI, lenGs, sSeq, sIf, sRet, sRetN, sAsg, sDrop, sNext, sPar, sPar3, sBreak, sCont, eVar, eC, eOp, eUn, eChain, eAnd, eOr, eNot, eIte, aNil, aCons, eTup, eLst, eCall, eCB, tVal, tAndM, tOrM, tNotM, eSl, pSome, pNone, eDk0, eDt0, eDkc, gNm, gTp, gNl, gCn, wipeM, List.map_cons, List.map_nil, le_ii, lt_ii, gt_ii, ge_ii, add_ii, sub_ii, iadd_ii, neg_i, len_t, int_i, abs_i, List.getElem?_cons_zero, List.getElem?_cons_succ, List.set_cons_zero, List.set_cons_succ, List.length_cons, List.length_nil, Option.some.injEq, W.bl.injEq, W.int.injEq, W.str.injEq, W.tup.injEq, exists_eq_left', exists_eq_left, ↓reduceIte, Bool.not_true, Bool.not_false, Bool.false_eq_true, if_true, if_false, tb_bop0, tb_bop1, tb_bop2, tb_bop3, tb_bop4, tb_bop5, tb_bop6, tb_aug0, tb_aug1, tb_cop0, tb_cop1, tb_cop2, tb_cop3, tb_cop4, tb_cop5, tb_cop6, tb_cop7, tb_cop8, tb_cop9, tb_cop10, tb_cop11, tb_cop12, tb_ix0, tb_ix1, tb_set0, tb_set1, tb_set2, tb_bc0, tb_bc1, tb_bc2, tb_bc3, tb_bc4, tb_bc5, tb_bc6, tb_bc7, tb_bc8, tb_bc9, tb_bc10, tb_bc11, tb_bc12, tb_bc13, tb_bc14, tb_bc15, tb_bc16, tb_bc17, tb_bc18, tb_lf0, tb_lf1, tb_lf2, tb_lf3, tb_lf4, tb_lf5, tb_lf6, tb_bm0, tb_bm1, tb_bm2, tb_bm3, tb_bm4, tb_it0, tb_it1, tb_it2, tb_it3, tb_it4, tb_spc0, tb_spc1, tb_spc2, lb_bops, lb_augs, lb_cops, lb_ixs, lb_sets, lb_bcs, lb_lfs, lb_bms, lb_its, lb_spcs, lb_cst0, lb_cst1, lb_cst2, lb_cst3, lb_cst4, lb_cst5, lb_cst6, lb_clsA0, lb_clsI0, eLcI, iSq]
      refine isi_tupV hvw ⟨_, rfl, ?_⟩
      have e2 : isPr m w = (isTup w && (decide ((tupL w).length = 2) && (tupL w).all fun w => isInt w 0 (m - 1))) := rfl
      cases hvw with
      | tup us hu hul =>
        refine (if_neg (by simp [isTup])).mpr ?_
        simp only [len_t]
        have e3 : isPr m (.tup us) = (decide (us.length = 2) && us.all fun w => isInt w 0 (m - 1)) := rfl
        refine o_nei ⟨_, rfl, ?_⟩
        by_cases h2' : (us.length : Int) = 2
        · refine (if_neg (by rw [decide_eq_true h2']; decide)).mpr ?_
          have h2'' : us.length = 2 := by omega
          refine loopC_all (fun w => .bl (isInt w 0 (m - 1))) trivial _ _ (fun w hw Q' q => ?_) (le_line (by rw [List.length_nil]; omega)) ?_
          · simp only [dSs, dS, dE, dA, dT, dAnds, dOrs, dTAnds, dTOrs, dIfs, dO, dG, dGs, dI, lenGs, sSeq, sIf, sRet, sRetN, sAsg, sDrop, sNext, sPar, sPar3, sBreak, sCont, eVar, eC, eOp, eUn, eChain, eAnd, eOr, eNot, eIte, aNil, aCons, eTup, eLst, eCall, eCB, tVal, tAndM, tOrM, tNotM, eSl, pSome, pNone, eDk0, eDt0, eDkc, gNm, gTp, gNl, gCn, wipeM, List.map_cons, List.map_nil, le_ii, lt_ii, gt_ii, ge_ii, add_ii, sub_ii, iadd_ii, neg_i, len_t, int_i, abs_i, List.getElem?_cons_zero, List.getElem?_cons_succ, List.set_cons_zero, List.set_cons_succ, List.length_cons, List.length_nil, Option.some.injEq, W.bl.injEq, W.int.injEq, W.str.injEq, W.tup.injEq, exists_eq_left', exists_eq_left, ↓reduceIte, Bool.not_true, Bool.not_false, Bool.false_eq_true, if_true, if_false, tb_bop0, tb_bop1, tb_bop2, tb_bop3, tb_bop4, tb_bop5, tb_bop6, tb_aug0, tb_aug1, tb_cop0, tb_cop1, tb_cop2, tb_cop3, tb_cop4, tb_cop5, tb_cop6, tb_cop7, tb_cop8, tb_cop9, tb_cop10, tb_cop11, tb_cop12, tb_ix0, tb_ix1, tb_set0, tb_set1, tb_set2, tb_bc0, tb_bc1, tb_bc2, tb_bc3, tb_bc4, tb_bc5, tb_bc6, tb_bc7, tb_bc8, tb_bc9, tb_bc10, tb_bc11, tb_bc12, tb_bc13, tb_bc14, tb_bc15, tb_bc16, tb_bc17, tb_bc18, tb_lf0, tb_lf1, tb_lf2, tb_lf3, tb_lf4, tb_lf5, tb_lf6, tb_bm0, tb_bm1, tb_bm2, tb_bm3, tb_bm4, tb_it0, tb_it1, tb_it2, tb_it3, tb_it4, tb_spc0, tb_spc1, tb_spc2, lb_bops, lb_augs, lb_cops, lb_ixs, lb_sets, lb_bcs, lb_lfs, lb_bms, lb_its, lb_spcs, lb_cst0, lb_cst1, lb_cst2, lb_cst3, lb_cst4, lb_cst5, lb_cst6, lb_clsA0, lb_clsI0]
            exact call_pu (sp_is_integer (hu w hw)) q
          · rw [List.nil_append]
            refine ⟨us.map fun w => isInt w 0 (m - 1), all_dec _ _, _, rfl, ?_⟩
            rw [List.all_map]
            rw [decide_eq_true h2'', Bool.true_and] at e3
            by_cases hA : (us.all fun w => isInt w 0 (m - 1)) = true
            · have hA' : (us.all (id ∘ fun w => isInt w 0 (m - 1))) = true := hA
              rw [hA', if_neg (by decide)]
              exact h1 (e3.trans hA) _ _ ⟨rfl, _, _, rfl⟩
            · have hA1 : (us.all fun w => isInt w 0 (m - 1)) = false := by simpa using hA
              have hA' : (us.all (id ∘ fun w => isInt w 0 (m - 1))) = false := hA1
              rw [hA', if_pos (by decide)]
              exact h2 (e3.trans hA1) _ _ ⟨rfl, none, none, rfl⟩
        · refine (if_pos (by rw [decide_eq_false h2']; rfl)).mpr (h2 ?_ _ _ ⟨rfl, none, none, rfl⟩)
          rw [e3, decide_eq_false (by omega : ¬ us.length = 2)]; rfl
      | _ => exact (if_pos rfl).mpr (h2 rfl _ _ ⟨rfl, none, none, rfl⟩)
    · obtain ⟨rfl, x2, x3, rfl⟩ := hI
      rw [hA, Bool.true_and] at hq
      simp only [dSs, dS, dE, dA, dT, dAnds, dOrs, dTAnds, dTOrs, dIfs, dO, dG, dGs, dI, lenGs, sSeq, sIf, sRet, sRetN, sAsg, sDrop, sNext, sPar, sPar3, sBreak, sCont, eVar, eC, eOp, eUn, eChain, eAnd, eOr, eNot, eIte, aNil, aCons, eTup, eLst, eCall, eCB, tVal, tAndM, tOrM, tNotM, eSl, pSome, pNone, eDk0, eDt0, eDkc, gNm, gTp, gNl, gCn, wipeM, List.map_cons, List.map_nil, le_ii, lt_ii, gt_ii, ge_ii, add_ii, sub_ii, iadd_ii, neg_i, len_t, int_i, abs_i, List.getElem?_cons_zero, List.getElem?_cons_succ, List.set_cons_zero, List.set_cons_succ, List.length_cons, List.length_nil, Option.some.injEq, W.bl.injEq, W.int.injEq, W.str.injEq, W.tup.injEq, exists_eq_left', exists_eq_left, ↓reduceIte, Bool.not_true, Bool.not_false, Bool.false_eq_true, if_true, if_false, tb_bop0, tb_bop1, tb_bop2, tb_bop3, tb_bop4, tb_bop5, tb_bop6, tb_aug0, tb_aug1, tb_cop0, tb_cop1, tb_cop2, tb_cop3, tb_cop4, tb_cop5, tb_cop6, tb_cop7, tb_cop8, tb_cop9, tb_cop10, tb_cop11, tb_cop12, tb_ix0, tb_ix1, tb_set0, tb_set1, tb_set2, tb_bc0, tb_bc1, tb_bc2, tb_bc3, tb_bc4, tb_bc5, tb_bc6, tb_bc7, tb_bc8, tb_bc9, tb_bc10, tb_bc11, tb_bc12, tb_bc13, tb_bc14, tb_bc15, tb_bc16, tb_bc17, tb_bc18, tb_lf0, tb_lf1, tb_lf2, tb_lf3, tb_lf4, tb_lf5, tb_lf6, tb_bm0, tb_bm1, tb_bm2, tb_bm3, tb_bm4, tb_it0, tb_it1, tb_it2, tb_it3, tb_it4, tb_spc0, tb_spc1, tb_spc2, lb_bops, lb_augs, lb_cops, lb_ixs, lb_sets, lb_bcs, lb_lfs, lb_bms, lb_its, lb_spcs, lb_cst0, lb_cst1, lb_cst2, lb_cst3, lb_cst4, lb_cst5, lb_cst6, lb_clsA0, lb_clsI0]
      have hA2 : (ws.all (isPr m)) = true := hA
      by_cases hm : 0 ≤ m
      · obtain ⟨mm, rfl⟩ := Int.eq_ofNat_of_zero_le hm
        obtain ⟨l, rfl, _⟩ := prs_list hA2
        rw [prs_back] at hq
        exact call_pu (sp_are_asc (f := pairI) (R := SrtO.lexB) (fun a b Q q => lt_pB q) (by rw [List.length_map] at hl; omega)) (Dn.of hq)
      · have hws : ws = [] := by
          cases ws with
          | nil => rfl
          | cons w ws =>
            rw [List.all_cons, Bool.and_eq_true] at hA2
            have h3 := hA2.1
            unfold isPr at h3
            rw [Bool.and_eq_true, Bool.and_eq_true, decide_eq_true_eq] at h3
            obtain ⟨_, h4, h5⟩ := h3
            obtain ⟨is, ei, hi⟩ := ints_inv (r := m) h5
            rw [ei, List.length_map] at h4
            match is, h4 with
            | [a, b], _ =>
              have := hi a (by simp)
              omega
        subst hws
        exact call_pu (sp_are_asc (f := pairI) (R := SrtO.lexB) (l := []) (fun a b Q q => lt_pB q) (by simp)) (Dn.of hq)
    · obtain ⟨rfl, x2, x3, rfl⟩ := hI
      have hF' : (ws.all (isPr m)) = false := hF
      rw [hF', Bool.false_and] at hq
      exact Dn.of hq
  | _ => exact (if_pos rfl).mpr (Dn.of hq)
end
/-! ### worlds -/
def isWd (k r : Int) (v : W) : Bool := match v with
  | .tup [.str s, a, b, d] => decide (s = "world") && (isInt a 1 200 && (isTup b && (isTup d && (decide (((tupL b).length : Int) = k) && (decide (((tupL d).length : Int) = r) && ((tupL b).all (isThg (intW a)) && (tupL d).all (isPrs (intW a))))))))
  | _ => false
theorem wd_form {k r : Int} {v : W} (h : isWd k r v = true) : (decide (fst v = "world") && decide (fnum v = 4)) = true := by
  unfold isWd at h
  split at h
  · rw [Bool.and_eq_true] at h
    have h1 := of_decide_eq_true h.1
    subst h1
    show (decide (("world" : Str) = "world") && decide (((3 : Nat) : Int) + 1 = 4)) = true
    decide +kernel
  · cases h
theorem wd4 {v : W} (h : (decide (fst v = "world") && decide (fnum v = 4)) = true) : ∃ a b d, v = .tup [.str "world", a, b, d] := by
  obtain ⟨ws, rfl, hl⟩ := shape h (by decide +kernel)
  obtain ⟨a, b, d, rfl⟩ := len3 hl
  exact ⟨a, b, d, rfl⟩
theorem wd_eq {k r : Int} {a b d : W} : isWd k r (.tup [.str "world", a, b, d]) = (isInt a 1 200 && (isTup b && (isTup d && (decide (((tupL b).length : Int) = k) && (decide (((tupL d).length : Int) = r) && ((tupL b).all (isThg (intW a)) && (tupL d).all (isPrs (intW a)))))))) := by
  show (decide (("world" : Str) = "world") && _) = _
  rw [decide_eq_true rfl]
  exact Bool.true_and _
theorem all_inv {α : Type} {P : W → Bool} {f : α → W} {G : α → Prop} (h : ∀ w, P w = true → ∃ a, w = f a ∧ G a) : ∀ {ws : List W}, ws.all P = true → ∃ as : List α, ws = as.map f ∧ ∀ a ∈ as, G a
  | [], _ => ⟨[], rfl, by simp⟩
  | w :: ws, hh => by
    rw [List.all_cons, Bool.and_eq_true] at hh
    obtain ⟨a, rfl, ha⟩ := h w hh.1
    obtain ⟨as, rfl, h2⟩ := all_inv h hh.2
    refine ⟨a :: as, rfl, fun x hx => ?_⟩
    rcases List.mem_cons.mp hx with rfl | hx
    · exact ha
    · exact h2 x hx
theorem wd_inv {pb : Addr} {μ : Mem} {k r : Int} {v : W} (hk : k ≤ 16) (hr : r ≤ 6) (hv : Vl pb μ 20 v) (h : isWd k r v = true) : ∃ w, v = worldW w ∧ WdOk k r w := by
  obtain ⟨a, b, d, rfl⟩ := wd4 (wd_form h)
  rw [wd_eq] at h
  simp only [Bool.and_eq_true, decide_eq_true_eq] at h
  obtain ⟨h1, h2, h3, h4, h5, h6, h7⟩ := h
  obtain ⟨i, rfl, i1, i2⟩ := isInt_inv h1
  obtain ⟨m, rfl⟩ := Int.eq_ofNat_of_zero_le (by omega : 0 ≤ i)
  have vb := hv.mem (w := b) (by simp)
  have vd := hv.mem (w := d) (by simp)
  cases b with
  | tup ks =>
    cases d with
    | tup rs =>
      obtain ⟨ls, e1, hls⟩ := all_inv (f := intsW) (G := fun l => l.Pairwise (· < ·) ∧ ∀ x ∈ l, 0 ≤ x ∧ x < (m : Int)) (fun w hw => by
        obtain ⟨l, e, h1, h2⟩ := thg_inv (m := m) hw
        exact ⟨l, e, h1, h2⟩) h6
      obtain ⟨qs, e2, hqs⟩ := all_inv (f := prsW) (G := fun l => (l.Pairwise fun p q => SrtO.lexB p q = true) ∧ ∀ p ∈ l, (0 ≤ p.1 ∧ p.1 < (m : Int)) ∧ 0 ≤ p.2 ∧ p.2 < (m : Int)) (fun w hw => by
        obtain ⟨l, e, h1, h2⟩ := prs_inv (m := m) hw
        exact ⟨l, e, h1, h2⟩) h7
      have e1' : ks = ls.map intsW := e1
      have e2' : rs = qs.map prsW := e2
      subst e1' e2'
      have h4' : ((ls.map intsW).length : Int) = k := h4
      have h5' : ((qs.map prsW).length : Int) = r := h5
      rw [List.length_map] at h4' h5'
      refine ⟨⟨m, ls, qs⟩, rfl, by show 1 ≤ m; omega, by show m ≤ 200; omega, h4', h5', by omega, by omega, fun l hl => ?_, fun l hl => ?_⟩
      · have := (vb.mem (List.mem_map.mpr ⟨l, hl, rfl⟩)).len
        rw [List.length_map] at this
        exact ⟨(hls l hl).1, (hls l hl).2, this⟩
      · have := (vd.mem (List.mem_map.mpr ⟨l, hl, rfl⟩)).len
        rw [List.length_map] at this
        exact ⟨(hqs l hl).1, (hqs l hl).2, by omega⟩
    | _ => cases h3
  | _ => cases h2
end K01
set_option Elab.async false
set_option autoImplicit false
set_option linter.all false
set_option maxRecDepth 100000
namespace K01
open PySem PySem.Spec PyProof.Rows L2 MP
theorem sk_world : PyData.strOk "world" = true := by decide +kernel
def tmOf (t u : W) : Bool := match t with
  | .tup [_, .int k, .int r, _] => (good k r 20 u 0).1
  | _ => false
def wdOf (t v : W) : Bool := match t with
  | .tup [_, .int k, .int r, _] => isWd k r v
  | _ => false
section
variable {c : List Addr} {n : Nat} {pb : Addr} {L : Nat} {k r : Int} {axs : List W} {v : W} {μ : Mem}
theorem sp_is_world_of (hL : L ≤ 1000) (hv : Vl pb μ L v) : Pu (Gm c (n + 3) j_is_world_of) [termsW k r axs, v] μ (.bl (isWd k r v)) := fun Q E hq => by
  refine ⟨rfl, ?_⟩
  show dSs _ _ t_is_world_of [some (.tup [.str "terms", .int k, .int r, .tup axs]), some v, none, none, none, none, none] μ _ _
  simp only [t_is_world_of, dSs, dS, dE, dA, dT, dAnds, dOrs, dTAnds, dTOrs, dIfs, dO, dG, dGs, dI, lenGs, sSeq, sIf, sRet, sRetN, sAsg, sDrop, sNext, sPar, sPar3, sBreak, sCont, eVar, eC, eOp, eUn, eChain, eAnd, eOr, eNot, eIte, aNil, aCons, eTup, eLst, eCall, eCB, tVal, tAndM, tOrM, tNotM, eSl, pSome, pNone, eDk0, eDt0, eDkc, gNm, gTp, gNl, gCn, wipeM, List.map_cons, List.map_nil, le_ii, lt_ii, gt_ii, ge_ii, add_ii, sub_ii, iadd_ii, neg_i, len_t, int_i, abs_i, List.getElem?_cons_zero, List.getElem?_cons_succ, List.set_cons_zero, List.set_cons_succ, List.length_cons, List.length_nil, Option.some.injEq, W.bl.injEq, W.int.injEq, W.str.injEq, W.tup.injEq, exists_eq_left', exists_eq_left, ↓reduceIte, Bool.not_true, Bool.not_false, Bool.false_eq_true, if_true, if_false, tb_bop0, tb_bop1, tb_bop2, tb_bop3, tb_bop4, tb_bop5, tb_bop6, tb_aug0, tb_aug1, tb_cop0, tb_cop1, tb_cop2, tb_cop3, tb_cop4, tb_cop5, tb_cop6, tb_cop7, tb_cop8, tb_cop9, tb_cop10, tb_cop11, tb_cop12, tb_ix0, tb_ix1, tb_set0, tb_set1, tb_set2, tb_bc0, tb_bc1, tb_bc2, tb_bc3, tb_bc4, tb_bc5, tb_bc6, tb_bc7, tb_bc8, tb_bc9, tb_bc10, tb_bc11, tb_bc12, tb_bc13, tb_bc14, tb_bc15, tb_bc16, tb_bc17, tb_bc18, tb_lf0, tb_lf1, tb_lf2, tb_lf3, tb_lf4, tb_lf5, tb_lf6, tb_bm0, tb_bm1, tb_bm2, tb_bm3, tb_bm4, tb_it0, tb_it1, tb_it2, tb_it3, tb_it4, tb_spc0, tb_spc1, tb_spc2, lb_bops, lb_augs, lb_cops, lb_ixs, lb_sets, lb_bcs, lb_lfs, lb_bms, lb_its, lb_spcs, lb_cst0, lb_cst1, lb_cst2, lb_cst3, lb_cst4, lb_cst5, lb_cst6, lb_clsA0, lb_clsI0, eLcI, iSq]
  refine call_pu (sp_form_of hv) ⟨by decide, o_nef (vl_fst hv) sk_world ⟨_, rfl, ?_⟩⟩
  by_cases hf : (decide (fst v = "world") && decide (fnum v = 4)) = true
  · rw [hf, if_neg (by decide)]
    obtain ⟨a, b, d, rfl⟩ := wd4 hf
    have va := hv.mem (w := a) (by simp)
    have vb := hv.mem (w := b) (by simp)
    have vd := hv.mem (w := d) (by simp)
    rw [wd_eq] at hq
    refine ⟨rfl, rfl, call_pu (sp_is_integer va) ⟨_, rfl, ?_⟩⟩
    by_cases h1 : isInt a 1 200 = true
    · rw [h1, if_neg (by decide)]
      rw [h1, Bool.true_and] at hq
      obtain ⟨m, rfl, m1, m2⟩ := isInt_inv h1
      refine isi_tupV vb ⟨_, rfl, ?_⟩
      cases vb with
      | tup ks hk hkl =>
        refine (if_neg (by simp [isTup])).mpr (isi_tupV vd ⟨_, rfl, ?_⟩)
        cases vd with
        | tup rs hr hrl =>
          refine (if_neg (by simp [isTup])).mpr ?_
          simp only [len_t]
          have e : (isTup (.tup ks) && (isTup (.tup rs) && (decide (((tupL (.tup ks)).length : Int) = k) && (decide (((tupL (.tup rs)).length : Int) = r) && ((tupL (.tup ks)).all (isThg (intW (.int m))) && (tupL (.tup rs)).all (isPrs (intW (.int m)))))))) = (decide ((ks.length : Int) = k) && (decide ((rs.length : Int) = r) && (ks.all (isThg m) && rs.all (isPrs m)))) := rfl
          rw [e] at hq
          refine ix_t (i := 1) rfl (o_nei ⟨_, rfl, ?_⟩)
          by_cases h2 : (ks.length : Int) = k
          · rw [decide_eq_true h2, Bool.true_and] at hq
            refine (if_neg (by rw [decide_eq_true h2]; decide)).mpr (ix_t (i := 2) rfl (o_nei ⟨_, rfl, ?_⟩))
            by_cases h3 : (rs.length : Int) = r
            · rw [decide_eq_true h3, Bool.true_and] at hq
              refine (if_neg (by rw [decide_eq_true h3]; decide)).mpr ?_
              refine loopC_all (fun w => .bl (isThg m w)) trivial _ _ (fun w hw Q' q => ?_) (le_line (by rw [List.length_nil]; omega)) ?_
              · simp only [dSs, dS, dE, dA, dT, dAnds, dOrs, dTAnds, dTOrs, dIfs, dO, dG, dGs, dI, lenGs, sSeq, sIf, sRet, sRetN, sAsg, sDrop, sNext, sPar, sPar3, sBreak, sCont, eVar, eC, eOp, eUn, eChain, eAnd, eOr, eNot, eIte, aNil, aCons, eTup, eLst, eCall, eCB, tVal, tAndM, tOrM, tNotM, eSl, pSome, pNone, eDk0, eDt0, eDkc, gNm, gTp, gNl, gCn, wipeM, List.map_cons, List.map_nil, le_ii, lt_ii, gt_ii, ge_ii, add_ii, sub_ii, iadd_ii, neg_i, len_t, int_i, abs_i, List.getElem?_cons_zero, List.getElem?_cons_succ, List.set_cons_zero, List.set_cons_succ, List.length_cons, List.length_nil, Option.some.injEq, W.bl.injEq, W.int.injEq, W.str.injEq, W.tup.injEq, exists_eq_left', exists_eq_left, ↓reduceIte, Bool.not_true, Bool.not_false, Bool.false_eq_true, if_true, if_false, tb_bop0, tb_bop1, tb_bop2, tb_bop3, tb_bop4, tb_bop5, tb_bop6, tb_aug0, tb_aug1, tb_cop0, tb_cop1, tb_cop2, tb_cop3, tb_cop4, tb_cop5, tb_cop6, tb_cop7, tb_cop8, tb_cop9, tb_cop10, tb_cop11, tb_cop12, tb_ix0, tb_ix1, tb_set0, tb_set1, tb_set2, tb_bc0, tb_bc1, tb_bc2, tb_bc3, tb_bc4, tb_bc5, tb_bc6, tb_bc7, tb_bc8, tb_bc9, tb_bc10, tb_bc11, tb_bc12, tb_bc13, tb_bc14, tb_bc15, tb_bc16, tb_bc17, tb_bc18, tb_lf0, tb_lf1, tb_lf2, tb_lf3, tb_lf4, tb_lf5, tb_lf6, tb_bm0, tb_bm1, tb_bm2, tb_bm3, tb_bm4, tb_it0, tb_it1, tb_it2, tb_it3, tb_it4, tb_spc0, tb_spc1, tb_spc2, lb_bops, lb_augs, lb_cops, lb_ixs, lb_sets, lb_bcs, lb_lfs, lb_bms, lb_its, lb_spcs, lb_cst0, lb_cst1, lb_cst2, lb_cst3, lb_cst4, lb_cst5, lb_cst6, lb_clsA0, lb_clsI0]
                exact call_pu (sp_are_things hL (hk w hw)) q
              · rw [List.nil_append]
                refine ⟨ks.map (isThg m), all_dec _ _, _, rfl, ?_⟩
                rw [List.all_map]
                by_cases hA : (ks.all (isThg m)) = true
                · have hA' : (ks.all (id ∘ isThg m)) = true := hA
                  rw [hA', if_pos rfl]
                  rw [hA, Bool.true_and] at hq
                  refine loopC_all (fun w => .bl (isPrs m w)) trivial _ _ (fun w hw Q' q => ?_) (le_line (by rw [List.length_nil]; omega)) ?_
                  · simp only [dSs, dS, dE, dA, dT, dAnds, dOrs, dTAnds, dTOrs, dIfs, dO, dG, dGs, dI, lenGs, sSeq, sIf, sRet, sRetN, sAsg, sDrop, sNext, sPar, sPar3, sBreak, sCont, eVar, eC, eOp, eUn, eChain, eAnd, eOr, eNot, eIte, aNil, aCons, eTup, eLst, eCall, eCB, tVal, tAndM, tOrM, tNotM, eSl, pSome, pNone, eDk0, eDt0, eDkc, gNm, gTp, gNl, gCn, wipeM, List.map_cons, List.map_nil, le_ii, lt_ii, gt_ii, ge_ii, add_ii, sub_ii, iadd_ii, neg_i, len_t, int_i, abs_i, List.getElem?_cons_zero, List.getElem?_cons_succ, List.set_cons_zero, List.set_cons_succ, List.length_cons, List.length_nil, Option.some.injEq, W.bl.injEq, W.int.injEq, W.str.injEq, W.tup.injEq, exists_eq_left', exists_eq_left, ↓reduceIte, Bool.not_true, Bool.not_false, Bool.false_eq_true, if_true, if_false, tb_bop0, tb_bop1, tb_bop2, tb_bop3, tb_bop4, tb_bop5, tb_bop6, tb_aug0, tb_aug1, tb_cop0, tb_cop1, tb_cop2, tb_cop3, tb_cop4, tb_cop5, tb_cop6, tb_cop7, tb_cop8, tb_cop9, tb_cop10, tb_cop11, tb_cop12, tb_ix0, tb_ix1, tb_set0, tb_set1, tb_set2, tb_bc0, tb_bc1, tb_bc2, tb_bc3, tb_bc4, tb_bc5, tb_bc6, tb_bc7, tb_bc8, tb_bc9, tb_bc10, tb_bc11, tb_bc12, tb_bc13, tb_bc14, tb_bc15, tb_bc16, tb_bc17, tb_bc18, tb_lf0, tb_lf1, tb_lf2, tb_lf3, tb_lf4, tb_lf5, tb_lf6, tb_bm0, tb_bm1, tb_bm2, tb_bm3, tb_bm4, tb_it0, tb_it1, tb_it2, tb_it3, tb_it4, tb_spc0, tb_spc1, tb_spc2, lb_bops, lb_augs, lb_cops, lb_ixs, lb_sets, lb_bcs, lb_lfs, lb_bms, lb_its, lb_spcs, lb_cst0, lb_cst1, lb_cst2, lb_cst3, lb_cst4, lb_cst5, lb_cst6, lb_clsA0, lb_clsI0]
                    exact call_pu (sp_are_pairs hL (hr w hw)) q
                  · rw [List.nil_append]
                    refine ⟨rs.map (isPrs m), all_dec _ _, Dn.of ?_⟩
                    rw [List.all_map]
                    exact hq
                · have hA1 : (ks.all (isThg m)) = false := by simpa using hA
                  have hA' : (ks.all (id ∘ isThg m)) = false := hA1
                  rw [hA', if_neg (by decide)]
                  rw [hA1, Bool.false_and] at hq
                  exact Dn.of hq
            · rw [decide_eq_false h3, Bool.false_and] at hq
              exact (if_pos (by rw [decide_eq_false h3]; rfl)).mpr (Dn.of hq)
          · rw [decide_eq_false h2, Bool.false_and] at hq
            exact (if_pos (by rw [decide_eq_false h2]; rfl)).mpr (Dn.of hq)
        | _ => exact (if_pos rfl).mpr (Dn.of hq)
      | _ => exact (if_pos rfl).mpr (Dn.of hq)
    · have h1' : isInt a 1 200 = false := by simpa using h1
      rw [h1', if_pos (by decide)]
      rw [h1', Bool.false_and] at hq
      exact Dn.of hq
  · have hf' : (decide (fst v = "world") && decide (fnum v = 4)) = false := by simpa using hf
    rw [hf', if_pos (by decide)]
    have e : isWd k r v = false := by
      cases h : isWd k r v with
      | false => rfl
      | true => exact absurd (wd_form h) hf
    rw [e] at hq
    exact Dn.of hq
theorem sp_is_world {t : W} (hn : 80 ≤ n) (hL : L ≤ 1000) (ht : Tv pb μ t) (hv : Vl pb μ L v) : Pu (Gm c n j_is_world) [t, v] μ (.bl (isTm t && wdOf t v)) := fun Q E hq => by
  obtain ⟨n, rfl⟩ : ∃ j, n = j + 4 := ⟨n - 4, by omega⟩
  refine ⟨rfl, ?_⟩
  show dSs _ _ t_is_world [some t, some v] μ _ _
  simp only [t_is_world, dSs, dS, dE, dA, dT, dAnds, dOrs, dTAnds, dTOrs, dIfs, dO, dG, dGs, dI, lenGs, sSeq, sIf, sRet, sRetN, sAsg, sDrop, sNext, sPar, sPar3, sBreak, sCont, eVar, eC, eOp, eUn, eChain, eAnd, eOr, eNot, eIte, aNil, aCons, eTup, eLst, eCall, eCB, tVal, tAndM, tOrM, tNotM, eSl, pSome, pNone, eDk0, eDt0, eDkc, gNm, gTp, gNl, gCn, wipeM, List.map_cons, List.map_nil, le_ii, lt_ii, gt_ii, ge_ii, add_ii, sub_ii, iadd_ii, neg_i, len_t, int_i, abs_i, List.getElem?_cons_zero, List.getElem?_cons_succ, List.set_cons_zero, List.set_cons_succ, List.length_cons, List.length_nil, Option.some.injEq, W.bl.injEq, W.int.injEq, W.str.injEq, W.tup.injEq, exists_eq_left', exists_eq_left, ↓reduceIte, Bool.not_true, Bool.not_false, Bool.false_eq_true, if_true, if_false, tb_bop0, tb_bop1, tb_bop2, tb_bop3, tb_bop4, tb_bop5, tb_bop6, tb_aug0, tb_aug1, tb_cop0, tb_cop1, tb_cop2, tb_cop3, tb_cop4, tb_cop5, tb_cop6, tb_cop7, tb_cop8, tb_cop9, tb_cop10, tb_cop11, tb_cop12, tb_ix0, tb_ix1, tb_set0, tb_set1, tb_set2, tb_bc0, tb_bc1, tb_bc2, tb_bc3, tb_bc4, tb_bc5, tb_bc6, tb_bc7, tb_bc8, tb_bc9, tb_bc10, tb_bc11, tb_bc12, tb_bc13, tb_bc14, tb_bc15, tb_bc16, tb_bc17, tb_bc18, tb_lf0, tb_lf1, tb_lf2, tb_lf3, tb_lf4, tb_lf5, tb_lf6, tb_bm0, tb_bm1, tb_bm2, tb_bm3, tb_bm4, tb_it0, tb_it1, tb_it2, tb_it3, tb_it4, tb_spc0, tb_spc1, tb_spc2, lb_bops, lb_augs, lb_cops, lb_ixs, lb_sets, lb_bcs, lb_lfs, lb_bms, lb_its, lb_spcs, lb_cst0, lb_cst1, lb_cst2, lb_cst3, lb_cst4, lb_cst5, lb_cst6, lb_clsA0, lb_clsI0]
  refine call_pu (sp_is_terms (by omega) ht) ⟨_, rfl, ?_⟩
  by_cases h : IsTerms t
  · rw [isTm_t h, Bool.true_and] at hq
    rw [isTm_t h, if_pos rfl]
    obtain ⟨k, r, xs, rfl, _⟩ := h
    exact call_pu (sp_is_world_of hL hv) (Dn.of hq)
  · rw [isTm_f h, Bool.false_and] at hq
    rw [isTm_f h, if_neg (by decide)]
    exact Dn.of hq
theorem sp_is_term {t : W} (hn : 80 ≤ n) (ht : Tv pb μ t) (hv : Vl pb μ L v) : Pu (Gm c n j_is_term) [t, v] μ (.bl (isTm t && tmOf t v)) := fun Q E hq => by
  obtain ⟨n, rfl⟩ : ∃ j, n = j + 4 := ⟨n - 4, by omega⟩
  refine ⟨rfl, ?_⟩
  show dSs _ _ t_is_term [some t, some v] μ _ _
  simp only [t_is_term, dSs, dS, dE, dA, dT, dAnds, dOrs, dTAnds, dTOrs, dIfs, dO, dG, dGs, dI, lenGs, sSeq, sIf, sRet, sRetN, sAsg, sDrop, sNext, sPar, sPar3, sBreak, sCont, eVar, eC, eOp, eUn, eChain, eAnd, eOr, eNot, eIte, aNil, aCons, eTup, eLst, eCall, eCB, tVal, tAndM, tOrM, tNotM, eSl, pSome, pNone, eDk0, eDt0, eDkc, gNm, gTp, gNl, gCn, wipeM, List.map_cons, List.map_nil, le_ii, lt_ii, gt_ii, ge_ii, add_ii, sub_ii, iadd_ii, neg_i, len_t, int_i, abs_i, List.getElem?_cons_zero, List.getElem?_cons_succ, List.set_cons_zero, List.set_cons_succ, List.length_cons, List.length_nil, Option.some.injEq, W.bl.injEq, W.int.injEq, W.str.injEq, W.tup.injEq, exists_eq_left', exists_eq_left, ↓reduceIte, Bool.not_true, Bool.not_false, Bool.false_eq_true, if_true, if_false, tb_bop0, tb_bop1, tb_bop2, tb_bop3, tb_bop4, tb_bop5, tb_bop6, tb_aug0, tb_aug1, tb_cop0, tb_cop1, tb_cop2, tb_cop3, tb_cop4, tb_cop5, tb_cop6, tb_cop7, tb_cop8, tb_cop9, tb_cop10, tb_cop11, tb_cop12, tb_ix0, tb_ix1, tb_set0, tb_set1, tb_set2, tb_bc0, tb_bc1, tb_bc2, tb_bc3, tb_bc4, tb_bc5, tb_bc6, tb_bc7, tb_bc8, tb_bc9, tb_bc10, tb_bc11, tb_bc12, tb_bc13, tb_bc14, tb_bc15, tb_bc16, tb_bc17, tb_bc18, tb_lf0, tb_lf1, tb_lf2, tb_lf3, tb_lf4, tb_lf5, tb_lf6, tb_bm0, tb_bm1, tb_bm2, tb_bm3, tb_bm4, tb_it0, tb_it1, tb_it2, tb_it3, tb_it4, tb_spc0, tb_spc1, tb_spc2, lb_bops, lb_augs, lb_cops, lb_ixs, lb_sets, lb_bcs, lb_lfs, lb_bms, lb_its, lb_spcs, lb_cst0, lb_cst1, lb_cst2, lb_cst3, lb_cst4, lb_cst5, lb_cst6, lb_clsA0, lb_clsI0]
  refine call_pu (sp_is_terms (by omega) ht) ⟨_, rfl, ?_⟩
  by_cases h : IsTerms t
  · rw [isTm_t h, Bool.true_and] at hq
    rw [isTm_t h, if_pos rfl]
    obtain ⟨k, r, xs, rfl, _⟩ := h
    exact ix_t (i := 1) rfl (ix_t (i := 2) rfl (call_pu (sp_is_term_over (by omega) hv) (Dn.of hq)))
  · rw [isTm_f h, Bool.false_and] at hq
    rw [isTm_f h, if_neg (by decide)]
    exact Dn.of hq
/-! ### _law_is_world -/
theorem sp_law_is_world {t : W} (hn : 80 ≤ n) (hL : L ≤ 1000) (ht : Tv pb μ t) (hv : Vl pb μ L v) : Pu (Gm c n j_law_is_world) [t, v] μ (.bl (isTm t && wdOf t v)) := fun Q E hq => by
  obtain ⟨n, rfl⟩ : ∃ j, n = j + 4 := ⟨n - 4, by omega⟩
  refine ⟨rfl, ?_⟩
  show dSs _ _ t_law_is_world [some t, some v, none, none, none, none] μ _ _
  simp only [t_law_is_world, dSs, dS, dE, dA, dT, dAnds, dOrs, dTAnds, dTOrs, dIfs, dO, dG, dGs, dI, lenGs, sSeq, sIf, sRet, sRetN, sAsg, sDrop, sNext, sPar, sPar3, sBreak, sCont, eVar, eC, eOp, eUn, eChain, eAnd, eOr, eNot, eIte, aNil, aCons, eTup, eLst, eCall, eCB, tVal, tAndM, tOrM, tNotM, eSl, pSome, pNone, eDk0, eDt0, eDkc, gNm, gTp, gNl, gCn, wipeM, List.map_cons, List.map_nil, le_ii, lt_ii, gt_ii, ge_ii, add_ii, sub_ii, iadd_ii, neg_i, len_t, int_i, abs_i, List.getElem?_cons_zero, List.getElem?_cons_succ, List.set_cons_zero, List.set_cons_succ, List.length_cons, List.length_nil, Option.some.injEq, W.bl.injEq, W.int.injEq, W.str.injEq, W.tup.injEq, exists_eq_left', exists_eq_left, ↓reduceIte, Bool.not_true, Bool.not_false, Bool.false_eq_true, if_true, if_false, tb_bop0, tb_bop1, tb_bop2, tb_bop3, tb_bop4, tb_bop5, tb_bop6, tb_aug0, tb_aug1, tb_cop0, tb_cop1, tb_cop2, tb_cop3, tb_cop4, tb_cop5, tb_cop6, tb_cop7, tb_cop8, tb_cop9, tb_cop10, tb_cop11, tb_cop12, tb_ix0, tb_ix1, tb_set0, tb_set1, tb_set2, tb_bc0, tb_bc1, tb_bc2, tb_bc3, tb_bc4, tb_bc5, tb_bc6, tb_bc7, tb_bc8, tb_bc9, tb_bc10, tb_bc11, tb_bc12, tb_bc13, tb_bc14, tb_bc15, tb_bc16, tb_bc17, tb_bc18, tb_lf0, tb_lf1, tb_lf2, tb_lf3, tb_lf4, tb_lf5, tb_lf6, tb_bm0, tb_bm1, tb_bm2, tb_bm3, tb_bm4, tb_it0, tb_it1, tb_it2, tb_it3, tb_it4, tb_spc0, tb_spc1, tb_spc2, lb_bops, lb_augs, lb_cops, lb_ixs, lb_sets, lb_bcs, lb_lfs, lb_bms, lb_its, lb_spcs, lb_cst0, lb_cst1, lb_cst2, lb_cst3, lb_cst4, lb_cst5, lb_cst6, lb_clsA0, lb_clsI0, eLcI, iSq, sFor]
  refine call_pu (sp_law_is_terms (by omega) ht) ⟨_, rfl, ?_⟩
  by_cases h : IsTerms t
  · rw [isTm_t h, Bool.true_and] at hq
    rw [isTm_t h, if_neg (by decide)]
    obtain ⟨k, r, xs, rfl, _⟩ := h
    have hq' : Q (.bl (isWd k r v)) μ := hq
    refine call_pu (sp_law_form hv) ⟨by decide, o_nef (vl_fst hv) sk_world ⟨_, rfl, ?_⟩⟩
    by_cases hf : (decide (fst v = "world") && decide (fnum v = 4)) = true
    · rw [hf, if_neg (by decide)]
      obtain ⟨a, b, d, rfl⟩ := wd4 hf
      have va := hv.mem (w := a) (by simp)
      have vb := hv.mem (w := b) (by simp)
      have vd := hv.mem (w := d) (by simp)
      rw [wd_eq] at hq'
      refine ix_t (i := 1) rfl (call_pu (sp_law_is_int va) ⟨_, rfl, ?_⟩)
      by_cases h1 : isInt a 1 200 = true
      · rw [h1, if_neg (by decide)]
        rw [h1, Bool.true_and] at hq'
        obtain ⟨m, rfl, m1, m2⟩ := isInt_inv h1
        refine ix_t (i := 2) rfl (isi_tupV vb ⟨_, rfl, ?_⟩)
        cases vb with
        | tup ks hk hkl =>
          refine (if_neg (by simp [isTup])).mpr (ix_t (i := 3) rfl (isi_tupV vd ⟨_, rfl, ?_⟩))
          cases vd with
          | tup rs hr hrl =>
            refine (if_neg (by simp [isTup])).mpr (ix_t (i := 2) rfl ?_)
            simp only [len_t]
            have e : (isTup (.tup ks) && (isTup (.tup rs) && (decide (((tupL (.tup ks)).length : Int) = k) && (decide (((tupL (.tup rs)).length : Int) = r) && ((tupL (.tup ks)).all (isThg (intW (.int m))) && (tupL (.tup rs)).all (isPrs (intW (.int m)))))))) = (decide ((ks.length : Int) = k) && (decide ((rs.length : Int) = r) && (ks.all (isThg m) && rs.all (isPrs m)))) := rfl
            rw [e] at hq'
            refine ix_t (i := 1) rfl (o_nei ⟨_, rfl, ?_⟩)
            by_cases h2 : (ks.length : Int) = k
            · rw [decide_eq_true h2, Bool.true_and] at hq'
              refine (if_neg (by rw [decide_eq_true h2]; decide)).mpr (ix_t (i := 3) rfl ?_)
              simp only [len_t]
              refine ix_t (i := 2) rfl (o_nei ⟨_, rfl, ?_⟩)
              by_cases h3 : (rs.length : Int) = r
              · rw [decide_eq_true h3, Bool.true_and] at hq'
                refine (if_neg (by rw [decide_eq_true h3]; decide)).mpr (ix_t (i := 2) rfl ?_)
                refine loopF_ret (fun ρ μ' => Sub μ μ' ∧ ∃ x2, ρ = [some (.tup [.str "terms", .int k, .int r, .tup (xs.map axW)]), some (.tup [.str "world", .int m, .tup ks, .tup rs]), x2, none, none, none]) (isThg m) (.bl false) (fun _ _ _ => trivial) _ _ _ ⟨Sub.refl, _, rfl⟩ (fun w hw ρ μ' hI N k1 k2 => ?_) (fun hA ρ' μ' hI => ?_) fun hF ρ' μ' hI => ?_
                · obtain ⟨sm, x2, rfl⟩ := hI
                  have hvw := (hk w hw).sub sm
                  simp only [dSs, dS, dE, dA, dT, dAnds, dOrs, dTAnds, dTOrs, dIfs, dO, dG, dGs, dI, lenGs, sSeq, sIf, sRet, sRetN, sAsg, sDrop, sNext, sPar, sPar3, sBreak, sCont, eVar, eC, eOp, eUn, eChain, eAnd, eOr, eNot, eIte, aNil, aCons, eTup, eLst, eCall, eCB, tVal, tAndM, tOrM, tNotM, eSl, pSome, pNone, eDk0, eDt0, eDkc, gNm, gTp, gNl, gCn, wipeM, List.map_cons, List.map_nil, le_ii, lt_ii, gt_ii, ge_ii, add_ii, sub_ii, iadd_ii, neg_i, len_t, int_i, abs_i, List.getElem?_cons_zero, List.getElem?_cons_succ, List.set_cons_zero, List.set_cons_succ, List.length_cons, List.length_nil, Option.some.injEq, W.bl.injEq, W.int.injEq, W.str.injEq, W.tup.injEq, exists_eq_left', exists_eq_left, ↓reduceIte, Bool.not_true, Bool.not_false, Bool.false_eq_true, if_true, if_false, tb_bop0, tb_bop1, tb_bop2, tb_bop3, tb_bop4, tb_bop5, tb_bop6, tb_aug0, tb_aug1, tb_cop0, tb_cop1, tb_cop2, tb_cop3, tb_cop4, tb_cop5, tb_cop6, tb_cop7, tb_cop8, tb_cop9, tb_cop10, tb_cop11, tb_cop12, tb_ix0, tb_ix1, tb_set0, tb_set1, tb_set2, tb_bc0, tb_bc1, tb_bc2, tb_bc3, tb_bc4, tb_bc5, tb_bc6, tb_bc7, tb_bc8, tb_bc9, tb_bc10, tb_bc11, tb_bc12, tb_bc13, tb_bc14, tb_bc15, tb_bc16, tb_bc17, tb_bc18, tb_lf0, tb_lf1, tb_lf2, tb_lf3, tb_lf4, tb_lf5, tb_lf6, tb_bm0, tb_bm1, tb_bm2, tb_bm3, tb_bm4, tb_it0, tb_it1, tb_it2, tb_it3, tb_it4, tb_spc0, tb_spc1, tb_spc2, lb_bops, lb_augs, lb_cops, lb_ixs, lb_sets, lb_bcs, lb_lfs, lb_bms, lb_its, lb_spcs, lb_cst0, lb_cst1, lb_cst2, lb_cst3, lb_cst4, lb_cst5, lb_cst6, lb_clsA0, lb_clsI0, eLcI, iSq]
                  refine isi_tupV hvw ⟨_, rfl, ?_⟩
                  cases hvw with
                  | tup us hu hul =>
                    have e3 : isThg m (.tup us) = ((us.all fun w => isInt w 0 (m - 1)) && ascB ltI (us.map intW)) := rfl
                    refine (if_neg (by simp [isTup])).mpr ?_
                    refine loopC_all (fun w => .bl (isInt w 0 (m - 1))) trivial _ _ (fun w hw Q' q => ?_) (le_line (by rw [List.length_nil]; omega)) ?_
                    · simp only [dSs, dS, dE, dA, dT, dAnds, dOrs, dTAnds, dTOrs, dIfs, dO, dG, dGs, dI, lenGs, sSeq, sIf, sRet, sRetN, sAsg, sDrop, sNext, sPar, sPar3, sBreak, sCont, eVar, eC, eOp, eUn, eChain, eAnd, eOr, eNot, eIte, aNil, aCons, eTup, eLst, eCall, eCB, tVal, tAndM, tOrM, tNotM, eSl, pSome, pNone, eDk0, eDt0, eDkc, gNm, gTp, gNl, gCn, wipeM, List.map_cons, List.map_nil, le_ii, lt_ii, gt_ii, ge_ii, add_ii, sub_ii, iadd_ii, neg_i, len_t, int_i, abs_i, List.getElem?_cons_zero, List.getElem?_cons_succ, List.set_cons_zero, List.set_cons_succ, List.length_cons, List.length_nil, Option.some.injEq, W.bl.injEq, W.int.injEq, W.str.injEq, W.tup.injEq, exists_eq_left', exists_eq_left, ↓reduceIte, Bool.not_true, Bool.not_false, Bool.false_eq_true, if_true, if_false, tb_bop0, tb_bop1, tb_bop2, tb_bop3, tb_bop4, tb_bop5, tb_bop6, tb_aug0, tb_aug1, tb_cop0, tb_cop1, tb_cop2, tb_cop3, tb_cop4, tb_cop5, tb_cop6, tb_cop7, tb_cop8, tb_cop9, tb_cop10, tb_cop11, tb_cop12, tb_ix0, tb_ix1, tb_set0, tb_set1, tb_set2, tb_bc0, tb_bc1, tb_bc2, tb_bc3, tb_bc4, tb_bc5, tb_bc6, tb_bc7, tb_bc8, tb_bc9, tb_bc10, tb_bc11, tb_bc12, tb_bc13, tb_bc14, tb_bc15, tb_bc16, tb_bc17, tb_bc18, tb_lf0, tb_lf1, tb_lf2, tb_lf3, tb_lf4, tb_lf5, tb_lf6, tb_bm0, tb_bm1, tb_bm2, tb_bm3, tb_bm4, tb_it0, tb_it1, tb_it2, tb_it3, tb_it4, tb_spc0, tb_spc1, tb_spc2, lb_bops, lb_augs, lb_cops, lb_ixs, lb_sets, lb_bcs, lb_lfs, lb_bms, lb_its, lb_spcs, lb_cst0, lb_cst1, lb_cst2, lb_cst3, lb_cst4, lb_cst5, lb_cst6, lb_clsA0, lb_clsI0]
                      exact ix_t (i := 1) rfl (call_pu (sp_law_is_int (hu w hw)) q)
                    · rw [List.nil_append, all_dec]
                      intro p hp
                      refine in_bls updM_same ⟨_, rfl, ?_⟩
                      rw [if_neg Bool.false_ne_true, List.all_map]
                      have sp : Sub μ (updM μ' p (.lst ((us.map fun w => isInt w 0 (m - 1)).map W.bl))) := fun a o e => sub_upd hp a o (sm a o e)
                      by_cases hA : (us.all fun w => isInt w 0 (m - 1)) = true
                      · have hA' : (us.all (id ∘ fun w => isInt w 0 (m - 1))) = true := hA
                        rw [hA', if_neg (by decide)]
                        rw [hA, Bool.true_and] at e3
                        obtain ⟨is, rfl, _⟩ := ints_inv hA
                        rw [ints_back] at e3
                        refine call_pu (sp_law_up (f := W.int) (R := ltI) (fun μ a b Q q => lt_iB q) (by rw [List.length_map] at hul; omega)) ⟨_, rfl, ?_⟩
                        by_cases hU : ascB ltI is = true
                        · rw [hU, if_neg (by decide)]
                          exact k1 (e3.trans hU) _ _ ⟨sp, _, rfl⟩
                        · have hU' : ascB ltI is = false := by simpa using hU
                          rw [hU', if_pos (by decide)]
                          exact k2 (e3.trans hU') _ _ ⟨sp, none, rfl⟩
                      · have hA1 : (us.all fun w => isInt w 0 (m - 1)) = false := by simpa using hA
                        have hA' : (us.all (id ∘ fun w => isInt w 0 (m - 1))) = false := hA1
                        rw [hA', if_pos (by decide)]
                        rw [hA1, Bool.false_and] at e3
                        exact k2 e3 _ _ ⟨sp, none, rfl⟩
                  | _ => exact (if_pos rfl).mpr (k2 rfl _ _ ⟨sm, none, rfl⟩)
                · obtain ⟨sm, x2, rfl⟩ := hI
                  have hA1 : (ks.all (isThg m)) = true := hA
                  rw [hA1, Bool.true_and] at hq'
                  simp only [dSs, dS, dE, dA, dT, dAnds, dOrs, dTAnds, dTOrs, dIfs, dO, dG, dGs, dI, lenGs, sSeq, sIf, sRet, sRetN, sAsg, sDrop, sNext, sPar, sPar3, sBreak, sCont, eVar, eC, eOp, eUn, eChain, eAnd, eOr, eNot, eIte, aNil, aCons, eTup, eLst, eCall, eCB, tVal, tAndM, tOrM, tNotM, eSl, pSome, pNone, eDk0, eDt0, eDkc, gNm, gTp, gNl, gCn, wipeM, List.map_cons, List.map_nil, le_ii, lt_ii, gt_ii, ge_ii, add_ii, sub_ii, iadd_ii, neg_i, len_t, int_i, abs_i, List.getElem?_cons_zero, List.getElem?_cons_succ, List.set_cons_zero, List.set_cons_succ, List.length_cons, List.length_nil, Option.some.injEq, W.bl.injEq, W.int.injEq, W.str.injEq, W.tup.injEq, exists_eq_left', exists_eq_left, ↓reduceIte, Bool.not_true, Bool.not_false, Bool.false_eq_true, if_true, if_false, tb_bop0, tb_bop1, tb_bop2, tb_bop3, tb_bop4, tb_bop5, tb_bop6, tb_aug0, tb_aug1, tb_cop0, tb_cop1, tb_cop2, tb_cop3, tb_cop4, tb_cop5, tb_cop6, tb_cop7, tb_cop8, tb_cop9, tb_cop10, tb_cop11, tb_cop12, tb_ix0, tb_ix1, tb_set0, tb_set1, tb_set2, tb_bc0, tb_bc1, tb_bc2, tb_bc3, tb_bc4, tb_bc5, tb_bc6, tb_bc7, tb_bc8, tb_bc9, tb_bc10, tb_bc11, tb_bc12, tb_bc13, tb_bc14, tb_bc15, tb_bc16, tb_bc17, tb_bc18, tb_lf0, tb_lf1, tb_lf2, tb_lf3, tb_lf4, tb_lf5, tb_lf6, tb_bm0, tb_bm1, tb_bm2, tb_bm3, tb_bm4, tb_it0, tb_it1, tb_it2, tb_it3, tb_it4, tb_spc0, tb_spc1, tb_spc2, lb_bops, lb_augs, lb_cops, lb_ixs, lb_sets, lb_bcs, lb_lfs, lb_bms, lb_its, lb_spcs, lb_cst0, lb_cst1, lb_cst2, lb_cst3, lb_cst4, lb_cst5, lb_cst6, lb_clsA0, lb_clsI0, iSq, sFor]
                  refine ix_t (i := 3) rfl ?_
                  refine loopF_ret (fun ρ μ' => Sub μ μ' ∧ ∃ x2 x3 x4, ρ = [some (.tup [.str "terms", .int k, .int r, .tup (xs.map axW)]), some (.tup [.str "world", .int m, .tup ks, .tup rs]), x2, x3, x4, none]) (isPrs m) (.bl false) (fun _ _ _ => trivial) _ _ _ ⟨sm, _, _, _, rfl⟩ (fun w hw ρ μ' hI N k1 k2 => ?_) (fun hA ρ' μ' hI => ?_) fun hF ρ' μ' hI => ?_
                  · obtain ⟨sm, x2, x3, x4, rfl⟩ := hI
                    have hvw := (hr w hw).sub sm
                    simp only [dSs, dS, dE, dA, dT, dAnds, dOrs, dTAnds, dTOrs, dIfs, dO, dG, dGs, dI, lenGs, sSeq, sIf, sRet, sRetN, sAsg, sDrop, sNext, sPar, sPar3, sBreak, sCont, eVar, eC, eOp, eUn, eChain, eAnd, eOr, eNot, eIte, aNil, aCons, eTup, eLst, eCall, eCB, tVal, tAndM, tOrM, tNotM, eSl, pSome, pNone, eDk0, eDt0, eDkc, gNm, gTp, gNl, gCn, wipeM, List.map_cons, List.map_nil, le_ii, lt_ii, gt_ii, ge_ii, add_ii, sub_ii, iadd_ii, neg_i, len_t, int_i, abs_i, List.getElem?_cons_zero, List.getElem?_cons_succ, List.set_cons_zero, List.set_cons_succ, List.length_cons, List.length_nil, Option.some.injEq, W.bl.injEq, W.int.injEq, W.str.injEq, W.tup.injEq, exists_eq_left', exists_eq_left, ↓reduceIte, Bool.not_true, Bool.not_false, Bool.false_eq_true, if_true, if_false, tb_bop0, tb_bop1, tb_bop2, tb_bop3, tb_bop4, tb_bop5, tb_bop6, tb_aug0, tb_aug1, tb_cop0, tb_cop1, tb_cop2, tb_cop3, tb_cop4, tb_cop5, tb_cop6, tb_cop7, tb_cop8, tb_cop9, tb_cop10, tb_cop11, tb_cop12, tb_ix0, tb_ix1, tb_set0, tb_set1, tb_set2, tb_bc0, tb_bc1, tb_bc2, tb_bc3, tb_bc4, tb_bc5, tb_bc6, tb_bc7, tb_bc8, tb_bc9, tb_bc10, tb_bc11, tb_bc12, tb_bc13, tb_bc14, tb_bc15, tb_bc16, tb_bc17, tb_bc18, tb_lf0, tb_lf1, tb_lf2, tb_lf3, tb_lf4, tb_lf5, tb_lf6, tb_bm0, tb_bm1, tb_bm2, tb_bm3, tb_bm4, tb_it0, tb_it1, tb_it2, tb_it3, tb_it4, tb_spc0, tb_spc1, tb_spc2, lb_bops, lb_augs, lb_cops, lb_ixs, lb_sets, lb_bcs, lb_lfs, lb_bms, lb_its, lb_spcs, lb_cst0, lb_cst1, lb_cst2, lb_cst3, lb_cst4, lb_cst5, lb_cst6, lb_clsA0, lb_clsI0, iSq, sFor]
                    refine isi_tupV hvw ⟨_, rfl, ?_⟩
                    cases hvw with
                    | tup us hu hul =>
                      have e3 : isPrs m (.tup us) = (us.all (isPr m) && ascB SrtO.lexB (us.map prOf)) := rfl
                      refine (if_neg (by simp [isTup])).mpr ?_
                      refine loopF_ret (fun ρ μ2 => Sub μ μ2 ∧ Sub μ' μ2 ∧ ∃ x4, ρ = [some (.tup [.str "terms", .int k, .int r, .tup (xs.map axW)]), some (.tup [.str "world", .int m, .tup ks, .tup rs]), x2, some (.tup us), x4, none]) (isPr m) (.bl false) (fun _ _ _ => trivial) _ _ _ ⟨sm, Sub.refl, _, rfl⟩ (fun w hw ρ μ2 hI N2 g1 g2 => ?_) (fun hA ρ' μ2 hI => ?_) fun hF ρ' μ2 hI => ?_
                      · obtain ⟨s2, s3, x4, rfl⟩ := hI
                        have hvw := (hu w hw).sub s3
                        simp only [dSs, dS, dE, dA, dT, dAnds, dOrs, dTAnds, dTOrs, dIfs, dO, dG, dGs, dI, lenGs, sSeq, sIf, sRet, sRetN, sAsg, sDrop, sNext, sPar, sPar3, sBreak, sCont, eVar, eC, eOp, eUn, eChain, eAnd, eOr, eNot, eIte, aNil, aCons, eTup, eLst, eCall, eCB, tVal, tAndM, tOrM, tNotM, eSl, pSome, pNone, eDk0, eDt0, eDkc, gNm, gTp, gNl, gCn, wipeM, List.map_cons, List.map_nil, le_ii, lt_ii, gt_ii, ge_ii, add_ii, sub_ii, iadd_ii, neg_i, len_t, int_i, abs_i, List.getElem?_cons_zero, List.getElem?_cons_succ, List.set_cons_zero, List.set_cons_succ, List.length_cons, List.length_nil, Option.some.injEq, W.bl.injEq, W.int.injEq, W.str.injEq, W.tup.injEq, exists_eq_left', exists_eq_left, ↓reduceIte, Bool.not_true, Bool.not_false, Bool.false_eq_true, if_true, if_false, tb_bop0, tb_bop1, tb_bop2, tb_bop3, tb_bop4, tb_bop5, tb_bop6, tb_aug0, tb_aug1, tb_cop0, tb_cop1, tb_cop2, tb_cop3, tb_cop4, tb_cop5, tb_cop6, tb_cop7, tb_cop8, tb_cop9, tb_cop10, tb_cop11, tb_cop12, tb_ix0, tb_ix1, tb_set0, tb_set1, tb_set2, tb_bc0, tb_bc1, tb_bc2, tb_bc3, tb_bc4, tb_bc5, tb_bc6, tb_bc7, tb_bc8, tb_bc9, tb_bc10, tb_bc11, tb_bc12, tb_bc13, tb_bc14, tb_bc15, tb_bc16, tb_bc17, tb_bc18, tb_lf0, tb_lf1, tb_lf2, tb_lf3, tb_lf4, tb_lf5, tb_lf6, tb_bm0, tb_bm1, tb_bm2, tb_bm3, tb_bm4, tb_it0, tb_it1, tb_it2, tb_it3, tb_it4, tb_spc0, tb_spc1, tb_spc2, lb_bops, lb_augs, lb_cops, lb_ixs, lb_sets, lb_bcs, lb_lfs, lb_bms, lb_its, lb_spcs, lb_cst0, lb_cst1, lb_cst2, lb_cst3, lb_cst4, lb_cst5, lb_cst6, lb_clsA0, lb_clsI0, eLcI, iSq]
                        refine isi_tupV hvw ⟨_, rfl, ?_⟩
                        cases hvw with
                        | tup ys hy hyl =>
                          have e4 : isPr m (.tup ys) = (decide (ys.length = 2) && ys.all fun w => isInt w 0 (m - 1)) := rfl
                          refine (if_neg (by simp [isTup])).mpr ?_
                          simp only [len_t]
                          refine o_nei ⟨_, rfl, ?_⟩
                          by_cases h2' : (ys.length : Int) = 2
                          · refine (if_neg (by rw [decide_eq_true h2']; decide)).mpr ?_
                            rw [decide_eq_true (by omega : ys.length = 2), Bool.true_and] at e4
                            refine loopC_all (fun w => .bl (isInt w 0 (m - 1))) trivial _ _ (fun w hw Q' q => ?_) (le_line (by rw [List.length_nil]; omega)) ?_
                            · simp only [dSs, dS, dE, dA, dT, dAnds, dOrs, dTAnds, dTOrs, dIfs, dO, dG, dGs, dI, lenGs, sSeq, sIf, sRet, sRetN, sAsg, sDrop, sNext, sPar, sPar3, sBreak, sCont, eVar, eC, eOp, eUn, eChain, eAnd, eOr, eNot, eIte, aNil, aCons, eTup, eLst, eCall, eCB, tVal, tAndM, tOrM, tNotM, eSl, pSome, pNone, eDk0, eDt0, eDkc, gNm, gTp, gNl, gCn, wipeM, List.map_cons, List.map_nil, le_ii, lt_ii, gt_ii, ge_ii, add_ii, sub_ii, iadd_ii, neg_i, len_t, int_i, abs_i, List.getElem?_cons_zero, List.getElem?_cons_succ, List.set_cons_zero, List.set_cons_succ, List.length_cons, List.length_nil, Option.some.injEq, W.bl.injEq, W.int.injEq, W.str.injEq, W.tup.injEq, exists_eq_left', exists_eq_left, ↓reduceIte, Bool.not_true, Bool.not_false, Bool.false_eq_true, if_true, if_false, tb_bop0, tb_bop1, tb_bop2, tb_bop3, tb_bop4, tb_bop5, tb_bop6, tb_aug0, tb_aug1, tb_cop0, tb_cop1, tb_cop2, tb_cop3, tb_cop4, tb_cop5, tb_cop6, tb_cop7, tb_cop8, tb_cop9, tb_cop10, tb_cop11, tb_cop12, tb_ix0, tb_ix1, tb_set0, tb_set1, tb_set2, tb_bc0, tb_bc1, tb_bc2, tb_bc3, tb_bc4, tb_bc5, tb_bc6, tb_bc7, tb_bc8, tb_bc9, tb_bc10, tb_bc11, tb_bc12, tb_bc13, tb_bc14, tb_bc15, tb_bc16, tb_bc17, tb_bc18, tb_lf0, tb_lf1, tb_lf2, tb_lf3, tb_lf4, tb_lf5, tb_lf6, tb_bm0, tb_bm1, tb_bm2, tb_bm3, tb_bm4, tb_it0, tb_it1, tb_it2, tb_it3, tb_it4, tb_spc0, tb_spc1, tb_spc2, lb_bops, lb_augs, lb_cops, lb_ixs, lb_sets, lb_bcs, lb_lfs, lb_bms, lb_its, lb_spcs, lb_cst0, lb_cst1, lb_cst2, lb_cst3, lb_cst4, lb_cst5, lb_cst6, lb_clsA0, lb_clsI0]
                              exact ix_t (i := 1) rfl (call_pu (sp_law_is_int (hy w hw)) q)
                            · rw [List.nil_append, all_dec]
                              intro p hp
                              refine in_bls updM_same ⟨_, rfl, ?_⟩
                              rw [if_neg Bool.false_ne_true, List.all_map]
                              have t2 : Sub μ (updM μ2 p (.lst ((ys.map fun w => isInt w 0 (m - 1)).map W.bl))) := fun a o e => sub_upd hp a o (s2 a o e)
                              have t3 : Sub μ' (updM μ2 p (.lst ((ys.map fun w => isInt w 0 (m - 1)).map W.bl))) := fun a o e => sub_upd hp a o (s3 a o e)
                              by_cases hA : (ys.all fun w => isInt w 0 (m - 1)) = true
                              · have hA' : (ys.all (id ∘ fun w => isInt w 0 (m - 1))) = true := hA
                                rw [hA', if_neg (by decide)]
                                exact g1 (e4.trans hA) _ _ ⟨t2, t3, _, rfl⟩
                              · have hA1 : (ys.all fun w => isInt w 0 (m - 1)) = false := by simpa using hA
                                have hA' : (ys.all (id ∘ fun w => isInt w 0 (m - 1))) = false := hA1
                                rw [hA', if_pos (by decide)]
                                exact g2 (e4.trans hA1) _ _ ⟨t2, t3, none, rfl⟩
                          · rw [decide_eq_false (by omega : ¬ ys.length = 2), Bool.false_and] at e4
                            exact (if_pos (by rw [decide_eq_false h2']; rfl)).mpr (g2 e4 _ _ ⟨s2, s3, none, rfl⟩)
                        | _ => exact (if_pos rfl).mpr (g2 rfl _ _ ⟨s2, s3, none, rfl⟩)
                      · obtain ⟨s2, s3, x4, rfl⟩ := hI
                        have hA2 : (us.all (isPr m)) = true := hA
                        rw [hA2, Bool.true_and] at e3
                        obtain ⟨mm, rfl⟩ := Int.eq_ofNat_of_zero_le (by omega : 0 ≤ m)
                        obtain ⟨l, rfl, _⟩ := prs_list hA2
                        rw [prs_back] at e3
                        simp only [dSs, dS, dE, dA, dT, dAnds, dOrs, dTAnds, dTOrs, dIfs, dO, dG, dGs, dI, lenGs, sSeq, sIf, sRet, sRetN, sAsg, sDrop, sNext, sPar, sPar3, sBreak, sCont, eVar, eC, eOp, eUn, eChain, eAnd, eOr, eNot, eIte, aNil, aCons, eTup, eLst, eCall, eCB, tVal, tAndM, tOrM, tNotM, eSl, pSome, pNone, eDk0, eDt0, eDkc, gNm, gTp, gNl, gCn, wipeM, List.map_cons, List.map_nil, le_ii, lt_ii, gt_ii, ge_ii, add_ii, sub_ii, iadd_ii, neg_i, len_t, int_i, abs_i, List.getElem?_cons_zero, List.getElem?_cons_succ, List.set_cons_zero, List.set_cons_succ, List.length_cons, List.length_nil, Option.some.injEq, W.bl.injEq, W.int.injEq, W.str.injEq, W.tup.injEq, exists_eq_left', exists_eq_left, ↓reduceIte, Bool.not_true, Bool.not_false, Bool.false_eq_true, if_true, if_false, tb_bop0, tb_bop1, tb_bop2, tb_bop3, tb_bop4, tb_bop5, tb_bop6, tb_aug0, tb_aug1, tb_cop0, tb_cop1, tb_cop2, tb_cop3, tb_cop4, tb_cop5, tb_cop6, tb_cop7, tb_cop8, tb_cop9, tb_cop10, tb_cop11, tb_cop12, tb_ix0, tb_ix1, tb_set0, tb_set1, tb_set2, tb_bc0, tb_bc1, tb_bc2, tb_bc3, tb_bc4, tb_bc5, tb_bc6, tb_bc7, tb_bc8, tb_bc9, tb_bc10, tb_bc11, tb_bc12, tb_bc13, tb_bc14, tb_bc15, tb_bc16, tb_bc17, tb_bc18, tb_lf0, tb_lf1, tb_lf2, tb_lf3, tb_lf4, tb_lf5, tb_lf6, tb_bm0, tb_bm1, tb_bm2, tb_bm3, tb_bm4, tb_it0, tb_it1, tb_it2, tb_it3, tb_it4, tb_spc0, tb_spc1, tb_spc2, lb_bops, lb_augs, lb_cops, lb_ixs, lb_sets, lb_bcs, lb_lfs, lb_bms, lb_its, lb_spcs, lb_cst0, lb_cst1, lb_cst2, lb_cst3, lb_cst4, lb_cst5, lb_cst6, lb_clsA0, lb_clsI0]
                        refine call_pu (sp_law_up (f := pairI) (R := SrtO.lexB) (fun μ a b Q q => lt_pB q) (by rw [List.length_map] at hul; omega)) ⟨_, rfl, ?_⟩
                        by_cases hU : ascB SrtO.lexB l = true
                        · rw [hU, if_neg (by decide)]
                          exact k1 (e3.trans hU) _ _ ⟨s2, _, _, _, rfl⟩
                        · have hU' : ascB SrtO.lexB l = false := by simpa using hU
                          rw [hU', if_pos (by decide)]
                          exact k2 (e3.trans hU') _ _ ⟨s2, none, none, none, rfl⟩
                      · obtain ⟨s2, s3, x4, rfl⟩ := hI
                        have hF' : (us.all (isPr m)) = false := hF
                        rw [hF', Bool.false_and] at e3
                        exact k2 e3 _ _ ⟨s2, none, none, none, rfl⟩
                    | _ => exact (if_pos rfl).mpr (k2 rfl _ _ ⟨sm, none, none, none, rfl⟩)
                  · obtain ⟨sm, x2, x3, x4, rfl⟩ := hI
                    have hA2 : (rs.all (isPrs m)) = true := hA
                    rw [hA2] at hq'
                    simp only [dSs, dS, dE, dA, dT, dAnds, dOrs, dTAnds, dTOrs, dIfs, dO, dG, dGs, dI, lenGs, sSeq, sIf, sRet, sRetN, sAsg, sDrop, sNext, sPar, sPar3, sBreak, sCont, eVar, eC, eOp, eUn, eChain, eAnd, eOr, eNot, eIte, aNil, aCons, eTup, eLst, eCall, eCB, tVal, tAndM, tOrM, tNotM, eSl, pSome, pNone, eDk0, eDt0, eDkc, gNm, gTp, gNl, gCn, wipeM, List.map_cons, List.map_nil, le_ii, lt_ii, gt_ii, ge_ii, add_ii, sub_ii, iadd_ii, neg_i, len_t, int_i, abs_i, List.getElem?_cons_zero, List.getElem?_cons_succ, List.set_cons_zero, List.set_cons_succ, List.length_cons, List.length_nil, Option.some.injEq, W.bl.injEq, W.int.injEq, W.str.injEq, W.tup.injEq, exists_eq_left', exists_eq_left, ↓reduceIte, Bool.not_true, Bool.not_false, Bool.false_eq_true, if_true, if_false, tb_bop0, tb_bop1, tb_bop2, tb_bop3, tb_bop4, tb_bop5, tb_bop6, tb_aug0, tb_aug1, tb_cop0, tb_cop1, tb_cop2, tb_cop3, tb_cop4, tb_cop5, tb_cop6, tb_cop7, tb_cop8, tb_cop9, tb_cop10, tb_cop11, tb_cop12, tb_ix0, tb_ix1, tb_set0, tb_set1, tb_set2, tb_bc0, tb_bc1, tb_bc2, tb_bc3, tb_bc4, tb_bc5, tb_bc6, tb_bc7, tb_bc8, tb_bc9, tb_bc10, tb_bc11, tb_bc12, tb_bc13, tb_bc14, tb_bc15, tb_bc16, tb_bc17, tb_bc18, tb_lf0, tb_lf1, tb_lf2, tb_lf3, tb_lf4, tb_lf5, tb_lf6, tb_bm0, tb_bm1, tb_bm2, tb_bm3, tb_bm4, tb_it0, tb_it1, tb_it2, tb_it3, tb_it4, tb_spc0, tb_spc1, tb_spc2, lb_bops, lb_augs, lb_cops, lb_ixs, lb_sets, lb_bcs, lb_lfs, lb_bms, lb_its, lb_spcs, lb_cst0, lb_cst1, lb_cst2, lb_cst3, lb_cst4, lb_cst5, lb_cst6, lb_clsA0, lb_clsI0]
                    exact Dn.sub sm hq'
                  · obtain ⟨sm, x2, x3, x4, rfl⟩ := hI
                    have hF' : (rs.all (isPrs m)) = false := hF
                    rw [hF'] at hq'
                    exact Dn.sub sm hq'
                · obtain ⟨sm, x2, rfl⟩ := hI
                  have hF' : (ks.all (isThg m)) = false := hF
                  rw [hF', Bool.false_and] at hq'
                  exact Dn.sub sm hq'
              · rw [decide_eq_false h3, Bool.false_and] at hq'
                exact (if_pos (by rw [decide_eq_false h3]; rfl)).mpr (Dn.of hq')
            · rw [decide_eq_false h2, Bool.false_and] at hq'
              exact (if_pos (by rw [decide_eq_false h2]; rfl)).mpr (Dn.of hq')
          | _ => exact (if_pos rfl).mpr (Dn.of hq')
        | _ => exact (if_pos rfl).mpr (Dn.of hq')
      · have h1' : isInt a 1 200 = false := by simpa using h1
        rw [h1', if_pos (by decide)]
        rw [h1', Bool.false_and] at hq'
        exact Dn.of hq'
    · have hf' : (decide (fst v = "world") && decide (fnum v = 4)) = false := by simpa using hf
      rw [hf', if_pos (by decide)]
      have e : isWd k r v = false := by
        cases h : isWd k r v with
        | false => rfl
        | true => exact absurd (wd_form h) hf
      rw [e] at hq'
      exact Dn.of hq'
  · rw [isTm_f h, Bool.false_and] at hq
    rw [isTm_f h, if_pos (by decide)]
    exact Dn.of hq
end
end K01
set_option Elab.async false
set_option autoImplicit false
set_option linter.all false
set_option maxRecDepth 100000
namespace K01
open PySem PySem.Spec PyProof.Rows L2 MP
section
variable {c : List Addr} {n : Nat} {pb : Addr} {L : Nat} {k r : Int} {axs : List W} {t v u : W} {μ : Mem}
theorem sp_check_terms (hn : 76 ≤ n) (ht : Tv pb μ t) (h : IsTerms t) : Pu (Gm c n j_check_terms) [t] μ .non := fun Q E hq => by
  obtain ⟨n, rfl⟩ : ∃ j, n = j + 1 := ⟨n - 1, by omega⟩
  refine ⟨rfl, ?_⟩
  show dSs _ _ t_check_terms [some t] μ _ _
  simp only [t_check_terms, dSs, dS, dE, dA, dT, dAnds, dOrs, dTAnds, dTOrs, dIfs, dO, dG, dGs, dI, lenGs, sSeq, sIf, sRet, sRetN, sAsg, sDrop, sNext, sPar, sPar3, sBreak, sCont, eVar, eC, eOp, eUn, eChain, eAnd, eOr, eNot, eIte, aNil, aCons, eTup, eLst, eCall, eCB, tVal, tAndM, tOrM, tNotM, eSl, pSome, pNone, eDk0, eDt0, eDkc, gNm, gTp, gNl, gCn, wipeM, List.map_cons, List.map_nil, le_ii, lt_ii, gt_ii, ge_ii, add_ii, sub_ii, iadd_ii, neg_i, len_t, int_i, abs_i, List.getElem?_cons_zero, List.getElem?_cons_succ, List.set_cons_zero, List.set_cons_succ, List.length_cons, List.length_nil, Option.some.injEq, W.bl.injEq, W.int.injEq, W.str.injEq, W.tup.injEq, exists_eq_left', exists_eq_left, ↓reduceIte, Bool.not_true, Bool.not_false, Bool.false_eq_true, if_true, if_false, tb_bop0, tb_bop1, tb_bop2, tb_bop3, tb_bop4, tb_bop5, tb_bop6, tb_aug0, tb_aug1, tb_cop0, tb_cop1, tb_cop2, tb_cop3, tb_cop4, tb_cop5, tb_cop6, tb_cop7, tb_cop8, tb_cop9, tb_cop10, tb_cop11, tb_cop12, tb_ix0, tb_ix1, tb_set0, tb_set1, tb_set2, tb_bc0, tb_bc1, tb_bc2, tb_bc3, tb_bc4, tb_bc5, tb_bc6, tb_bc7, tb_bc8, tb_bc9, tb_bc10, tb_bc11, tb_bc12, tb_bc13, tb_bc14, tb_bc15, tb_bc16, tb_bc17, tb_bc18, tb_lf0, tb_lf1, tb_lf2, tb_lf3, tb_lf4, tb_lf5, tb_lf6, tb_bm0, tb_bm1, tb_bm2, tb_bm3, tb_bm4, tb_it0, tb_it1, tb_it2, tb_it3, tb_it4, tb_spc0, tb_spc1, tb_spc2, lb_bops, lb_augs, lb_cops, lb_ixs, lb_sets, lb_bcs, lb_lfs, lb_bms, lb_its, lb_spcs, lb_cst0, lb_cst1, lb_cst2, lb_cst3, lb_cst4, lb_cst5, lb_cst6, lb_clsA0, lb_clsI0]
  refine call_pu (sp_is_terms (by omega) ht) ⟨_, rfl, ?_⟩
  rw [isTm_t h, if_neg (by decide)]
  exact Dn.of hq
theorem rz_check_terms (hn : 76 ≤ n) (ht : Tv pb μ t) (h : ¬ IsTerms t) : Rz (Gm c n j_check_terms) [t] μ "BadTerms" := fun Q E hq => by
  obtain ⟨n, rfl⟩ : ∃ j, n = j + 1 := ⟨n - 1, by omega⟩
  refine ⟨rfl, ?_⟩
  show dSs _ _ t_check_terms [some t] μ _ _
  simp only [t_check_terms, dSs, dS, dE, dA, dT, dAnds, dOrs, dTAnds, dTOrs, dIfs, dO, dG, dGs, dI, lenGs, sSeq, sIf, sRet, sRetN, sAsg, sDrop, sNext, sPar, sPar3, sBreak, sCont, eVar, eC, eOp, eUn, eChain, eAnd, eOr, eNot, eIte, aNil, aCons, eTup, eLst, eCall, eCB, tVal, tAndM, tOrM, tNotM, eSl, pSome, pNone, eDk0, eDt0, eDkc, gNm, gTp, gNl, gCn, wipeM, List.map_cons, List.map_nil, le_ii, lt_ii, gt_ii, ge_ii, add_ii, sub_ii, iadd_ii, neg_i, len_t, int_i, abs_i, List.getElem?_cons_zero, List.getElem?_cons_succ, List.set_cons_zero, List.set_cons_succ, List.length_cons, List.length_nil, Option.some.injEq, W.bl.injEq, W.int.injEq, W.str.injEq, W.tup.injEq, exists_eq_left', exists_eq_left, ↓reduceIte, Bool.not_true, Bool.not_false, Bool.false_eq_true, if_true, if_false, tb_bop0, tb_bop1, tb_bop2, tb_bop3, tb_bop4, tb_bop5, tb_bop6, tb_aug0, tb_aug1, tb_cop0, tb_cop1, tb_cop2, tb_cop3, tb_cop4, tb_cop5, tb_cop6, tb_cop7, tb_cop8, tb_cop9, tb_cop10, tb_cop11, tb_cop12, tb_ix0, tb_ix1, tb_set0, tb_set1, tb_set2, tb_bc0, tb_bc1, tb_bc2, tb_bc3, tb_bc4, tb_bc5, tb_bc6, tb_bc7, tb_bc8, tb_bc9, tb_bc10, tb_bc11, tb_bc12, tb_bc13, tb_bc14, tb_bc15, tb_bc16, tb_bc17, tb_bc18, tb_lf0, tb_lf1, tb_lf2, tb_lf3, tb_lf4, tb_lf5, tb_lf6, tb_bm0, tb_bm1, tb_bm2, tb_bm3, tb_bm4, tb_it0, tb_it1, tb_it2, tb_it3, tb_it4, tb_spc0, tb_spc1, tb_spc2, lb_bops, lb_augs, lb_cops, lb_ixs, lb_sets, lb_bcs, lb_lfs, lb_bms, lb_its, lb_spcs, lb_cst0, lb_cst1, lb_cst2, lb_cst3, lb_cst4, lb_cst5, lb_cst6, lb_clsA0, lb_clsI0]
  refine call_pu (sp_is_terms (by omega) ht) ⟨_, rfl, ?_⟩
  rw [isTm_f h, if_pos (by decide)]
  exact Dn.of hq
theorem sp_check_world (hL : L ≤ 1000) (hv : Vl pb μ L v) (h : isWd k r v = true) : Pu (Gm c (n + 4) j_check_world) [termsW k r axs, v] μ .non := fun Q E hq => by
  refine ⟨rfl, ?_⟩
  show dSs _ _ t_check_world [some (termsW k r axs), some v] μ _ _
  simp only [t_check_world, dSs, dS, dE, dA, dT, dAnds, dOrs, dTAnds, dTOrs, dIfs, dO, dG, dGs, dI, lenGs, sSeq, sIf, sRet, sRetN, sAsg, sDrop, sNext, sPar, sPar3, sBreak, sCont, eVar, eC, eOp, eUn, eChain, eAnd, eOr, eNot, eIte, aNil, aCons, eTup, eLst, eCall, eCB, tVal, tAndM, tOrM, tNotM, eSl, pSome, pNone, eDk0, eDt0, eDkc, gNm, gTp, gNl, gCn, wipeM, List.map_cons, List.map_nil, le_ii, lt_ii, gt_ii, ge_ii, add_ii, sub_ii, iadd_ii, neg_i, len_t, int_i, abs_i, List.getElem?_cons_zero, List.getElem?_cons_succ, List.set_cons_zero, List.set_cons_succ, List.length_cons, List.length_nil, Option.some.injEq, W.bl.injEq, W.int.injEq, W.str.injEq, W.tup.injEq, exists_eq_left', exists_eq_left, ↓reduceIte, Bool.not_true, Bool.not_false, Bool.false_eq_true, if_true, if_false, tb_bop0, tb_bop1, tb_bop2, tb_bop3, tb_bop4, tb_bop5, tb_bop6, tb_aug0, tb_aug1, tb_cop0, tb_cop1, tb_cop2, tb_cop3, tb_cop4, tb_cop5, tb_cop6, tb_cop7, tb_cop8, tb_cop9, tb_cop10, tb_cop11, tb_cop12, tb_ix0, tb_ix1, tb_set0, tb_set1, tb_set2, tb_bc0, tb_bc1, tb_bc2, tb_bc3, tb_bc4, tb_bc5, tb_bc6, tb_bc7, tb_bc8, tb_bc9, tb_bc10, tb_bc11, tb_bc12, tb_bc13, tb_bc14, tb_bc15, tb_bc16, tb_bc17, tb_bc18, tb_lf0, tb_lf1, tb_lf2, tb_lf3, tb_lf4, tb_lf5, tb_lf6, tb_bm0, tb_bm1, tb_bm2, tb_bm3, tb_bm4, tb_it0, tb_it1, tb_it2, tb_it3, tb_it4, tb_spc0, tb_spc1, tb_spc2, lb_bops, lb_augs, lb_cops, lb_ixs, lb_sets, lb_bcs, lb_lfs, lb_bms, lb_its, lb_spcs, lb_cst0, lb_cst1, lb_cst2, lb_cst3, lb_cst4, lb_cst5, lb_cst6, lb_clsA0, lb_clsI0]
  refine call_pu (sp_is_world_of hL hv) ⟨_, rfl, ?_⟩
  rw [h, if_neg (by decide)]
  exact Dn.of hq
theorem rz_check_world (hL : L ≤ 1000) (hv : Vl pb μ L v) (h : isWd k r v = false) : Rz (Gm c (n + 4) j_check_world) [termsW k r axs, v] μ "BadWorld" := fun Q E hq => by
  refine ⟨rfl, ?_⟩
  show dSs _ _ t_check_world [some (termsW k r axs), some v] μ _ _
  simp only [t_check_world, dSs, dS, dE, dA, dT, dAnds, dOrs, dTAnds, dTOrs, dIfs, dO, dG, dGs, dI, lenGs, sSeq, sIf, sRet, sRetN, sAsg, sDrop, sNext, sPar, sPar3, sBreak, sCont, eVar, eC, eOp, eUn, eChain, eAnd, eOr, eNot, eIte, aNil, aCons, eTup, eLst, eCall, eCB, tVal, tAndM, tOrM, tNotM, eSl, pSome, pNone, eDk0, eDt0, eDkc, gNm, gTp, gNl, gCn, wipeM, List.map_cons, List.map_nil, le_ii, lt_ii, gt_ii, ge_ii, add_ii, sub_ii, iadd_ii, neg_i, len_t, int_i, abs_i, List.getElem?_cons_zero, List.getElem?_cons_succ, List.set_cons_zero, List.set_cons_succ, List.length_cons, List.length_nil, Option.some.injEq, W.bl.injEq, W.int.injEq, W.str.injEq, W.tup.injEq, exists_eq_left', exists_eq_left, ↓reduceIte, Bool.not_true, Bool.not_false, Bool.false_eq_true, if_true, if_false, tb_bop0, tb_bop1, tb_bop2, tb_bop3, tb_bop4, tb_bop5, tb_bop6, tb_aug0, tb_aug1, tb_cop0, tb_cop1, tb_cop2, tb_cop3, tb_cop4, tb_cop5, tb_cop6, tb_cop7, tb_cop8, tb_cop9, tb_cop10, tb_cop11, tb_cop12, tb_ix0, tb_ix1, tb_set0, tb_set1, tb_set2, tb_bc0, tb_bc1, tb_bc2, tb_bc3, tb_bc4, tb_bc5, tb_bc6, tb_bc7, tb_bc8, tb_bc9, tb_bc10, tb_bc11, tb_bc12, tb_bc13, tb_bc14, tb_bc15, tb_bc16, tb_bc17, tb_bc18, tb_lf0, tb_lf1, tb_lf2, tb_lf3, tb_lf4, tb_lf5, tb_lf6, tb_bm0, tb_bm1, tb_bm2, tb_bm3, tb_bm4, tb_it0, tb_it1, tb_it2, tb_it3, tb_it4, tb_spc0, tb_spc1, tb_spc2, lb_bops, lb_augs, lb_cops, lb_ixs, lb_sets, lb_bcs, lb_lfs, lb_bms, lb_its, lb_spcs, lb_cst0, lb_cst1, lb_cst2, lb_cst3, lb_cst4, lb_cst5, lb_cst6, lb_clsA0, lb_clsI0]
  refine call_pu (sp_is_world_of hL hv) ⟨_, rfl, ?_⟩
  rw [h, if_pos (by decide)]
  exact Dn.of hq
theorem sp_check_term (hn : 24 ≤ n) (hv : Vl pb μ L v) (h : (good k r 20 v 0).1 = true) : Pu (Gm c n j_check_term) [termsW k r axs, v] μ .non := fun Q E hq => by
  obtain ⟨n, rfl⟩ : ∃ j, n = j + 1 := ⟨n - 1, by omega⟩
  refine ⟨rfl, ?_⟩
  show dSs _ _ t_check_term [some (termsW k r axs), some v] μ _ _
  simp only [t_check_term, dSs, dS, dE, dA, dT, dAnds, dOrs, dTAnds, dTOrs, dIfs, dO, dG, dGs, dI, lenGs, sSeq, sIf, sRet, sRetN, sAsg, sDrop, sNext, sPar, sPar3, sBreak, sCont, eVar, eC, eOp, eUn, eChain, eAnd, eOr, eNot, eIte, aNil, aCons, eTup, eLst, eCall, eCB, tVal, tAndM, tOrM, tNotM, eSl, pSome, pNone, eDk0, eDt0, eDkc, gNm, gTp, gNl, gCn, wipeM, List.map_cons, List.map_nil, le_ii, lt_ii, gt_ii, ge_ii, add_ii, sub_ii, iadd_ii, neg_i, len_t, int_i, abs_i, List.getElem?_cons_zero, List.getElem?_cons_succ, List.set_cons_zero, List.set_cons_succ, List.length_cons, List.length_nil, Option.some.injEq, W.bl.injEq, W.int.injEq, W.str.injEq, W.tup.injEq, exists_eq_left', exists_eq_left, ↓reduceIte, Bool.not_true, Bool.not_false, Bool.false_eq_true, if_true, if_false, tb_bop0, tb_bop1, tb_bop2, tb_bop3, tb_bop4, tb_bop5, tb_bop6, tb_aug0, tb_aug1, tb_cop0, tb_cop1, tb_cop2, tb_cop3, tb_cop4, tb_cop5, tb_cop6, tb_cop7, tb_cop8, tb_cop9, tb_cop10, tb_cop11, tb_cop12, tb_ix0, tb_ix1, tb_set0, tb_set1, tb_set2, tb_bc0, tb_bc1, tb_bc2, tb_bc3, tb_bc4, tb_bc5, tb_bc6, tb_bc7, tb_bc8, tb_bc9, tb_bc10, tb_bc11, tb_bc12, tb_bc13, tb_bc14, tb_bc15, tb_bc16, tb_bc17, tb_bc18, tb_lf0, tb_lf1, tb_lf2, tb_lf3, tb_lf4, tb_lf5, tb_lf6, tb_bm0, tb_bm1, tb_bm2, tb_bm3, tb_bm4, tb_it0, tb_it1, tb_it2, tb_it3, tb_it4, tb_spc0, tb_spc1, tb_spc2, lb_bops, lb_augs, lb_cops, lb_ixs, lb_sets, lb_bcs, lb_lfs, lb_bms, lb_its, lb_spcs, lb_cst0, lb_cst1, lb_cst2, lb_cst3, lb_cst4, lb_cst5, lb_cst6, lb_clsA0, lb_clsI0]
  refine ix_t (i := 1) rfl (ix_t (i := 2) rfl (call_pu (sp_is_term_over (by omega) hv) ⟨_, rfl, ?_⟩))
  rw [h, if_neg (by decide)]
  exact Dn.of hq
theorem rz_check_term (hn : 24 ≤ n) (hv : Vl pb μ L v) (h : (good k r 20 v 0).1 = false) : Rz (Gm c n j_check_term) [termsW k r axs, v] μ "BadTerm" := fun Q E hq => by
  obtain ⟨n, rfl⟩ : ∃ j, n = j + 1 := ⟨n - 1, by omega⟩
  refine ⟨rfl, ?_⟩
  show dSs _ _ t_check_term [some (termsW k r axs), some v] μ _ _
  simp only [t_check_term, dSs, dS, dE, dA, dT, dAnds, dOrs, dTAnds, dTOrs, dIfs, dO, dG, dGs, dI, lenGs, sSeq, sIf, sRet, sRetN, sAsg, sDrop, sNext, sPar, sPar3, sBreak, sCont, eVar, eC, eOp, eUn, eChain, eAnd, eOr, eNot, eIte, aNil, aCons, eTup, eLst, eCall, eCB, tVal, tAndM, tOrM, tNotM, eSl, pSome, pNone, eDk0, eDt0, eDkc, gNm, gTp, gNl, gCn, wipeM, List.map_cons, List.map_nil, le_ii, lt_ii, gt_ii, ge_ii, add_ii, sub_ii, iadd_ii, neg_i, len_t, int_i, abs_i, List.getElem?_cons_zero, List.getElem?_cons_succ, List.set_cons_zero, List.set_cons_succ, List.length_cons, List.length_nil, Option.some.injEq, W.bl.injEq, W.int.injEq, W.str.injEq, W.tup.injEq, exists_eq_left', exists_eq_left, ↓reduceIte, Bool.not_true, Bool.not_false, Bool.false_eq_true, if_true, if_false, tb_bop0, tb_bop1, tb_bop2, tb_bop3, tb_bop4, tb_bop5, tb_bop6, tb_aug0, tb_aug1, tb_cop0, tb_cop1, tb_cop2, tb_cop3, tb_cop4, tb_cop5, tb_cop6, tb_cop7, tb_cop8, tb_cop9, tb_cop10, tb_cop11, tb_cop12, tb_ix0, tb_ix1, tb_set0, tb_set1, tb_set2, tb_bc0, tb_bc1, tb_bc2, tb_bc3, tb_bc4, tb_bc5, tb_bc6, tb_bc7, tb_bc8, tb_bc9, tb_bc10, tb_bc11, tb_bc12, tb_bc13, tb_bc14, tb_bc15, tb_bc16, tb_bc17, tb_bc18, tb_lf0, tb_lf1, tb_lf2, tb_lf3, tb_lf4, tb_lf5, tb_lf6, tb_bm0, tb_bm1, tb_bm2, tb_bm3, tb_bm4, tb_it0, tb_it1, tb_it2, tb_it3, tb_it4, tb_spc0, tb_spc1, tb_spc2, lb_bops, lb_augs, lb_cops, lb_ixs, lb_sets, lb_bcs, lb_lfs, lb_bms, lb_its, lb_spcs, lb_cst0, lb_cst1, lb_cst2, lb_cst3, lb_cst4, lb_cst5, lb_cst6, lb_clsA0, lb_clsI0]
  refine ix_t (i := 1) rfl (ix_t (i := 2) rfl (call_pu (sp_is_term_over (by omega) hv) ⟨_, rfl, ?_⟩))
  rw [h, if_pos (by decide)]
  exact Dn.of hq
noncomputable def dueS (t v u : W) : Str := if isTm t = true then (if wdOf t v = true then (if tmOf t u = true then "right" else "term") else "world") else "terms"
theorem sp_law_told (hn : 90 ≤ n) (ht : Tv pb μ t) (hv : Vl pb μ 20 v) (hu : Vl pb μ L u) : Pu (Gm c n j_law_told) [t, v, u] μ (.str (dueS t v u)) := fun Q E hq => by
  obtain ⟨n, rfl⟩ : ∃ j, n = j + 6 := ⟨n - 6, by omega⟩
  refine ⟨rfl, ?_⟩
  show dSs _ _ t_law_told [some t, some v, some u] μ _ _
  simp only [t_law_told, dSs, dS, dE, dA, dT, dAnds, dOrs, dTAnds, dTOrs, dIfs, dO, dG, dGs, dI, lenGs, sSeq, sIf, sRet, sRetN, sAsg, sDrop, sNext, sPar, sPar3, sBreak, sCont, eVar, eC, eOp, eUn, eChain, eAnd, eOr, eNot, eIte, aNil, aCons, eTup, eLst, eCall, eCB, tVal, tAndM, tOrM, tNotM, eSl, pSome, pNone, eDk0, eDt0, eDkc, gNm, gTp, gNl, gCn, wipeM, List.map_cons, List.map_nil, le_ii, lt_ii, gt_ii, ge_ii, add_ii, sub_ii, iadd_ii, neg_i, len_t, int_i, abs_i, List.getElem?_cons_zero, List.getElem?_cons_succ, List.set_cons_zero, List.set_cons_succ, List.length_cons, List.length_nil, Option.some.injEq, W.bl.injEq, W.int.injEq, W.str.injEq, W.tup.injEq, exists_eq_left', exists_eq_left, ↓reduceIte, Bool.not_true, Bool.not_false, Bool.false_eq_true, if_true, if_false, tb_bop0, tb_bop1, tb_bop2, tb_bop3, tb_bop4, tb_bop5, tb_bop6, tb_aug0, tb_aug1, tb_cop0, tb_cop1, tb_cop2, tb_cop3, tb_cop4, tb_cop5, tb_cop6, tb_cop7, tb_cop8, tb_cop9, tb_cop10, tb_cop11, tb_cop12, tb_ix0, tb_ix1, tb_set0, tb_set1, tb_set2, tb_bc0, tb_bc1, tb_bc2, tb_bc3, tb_bc4, tb_bc5, tb_bc6, tb_bc7, tb_bc8, tb_bc9, tb_bc10, tb_bc11, tb_bc12, tb_bc13, tb_bc14, tb_bc15, tb_bc16, tb_bc17, tb_bc18, tb_lf0, tb_lf1, tb_lf2, tb_lf3, tb_lf4, tb_lf5, tb_lf6, tb_bm0, tb_bm1, tb_bm2, tb_bm3, tb_bm4, tb_it0, tb_it1, tb_it2, tb_it3, tb_it4, tb_spc0, tb_spc1, tb_spc2, lb_bops, lb_augs, lb_cops, lb_ixs, lb_sets, lb_bcs, lb_lfs, lb_bms, lb_its, lb_spcs, lb_cst0, lb_cst1, lb_cst2, lb_cst3, lb_cst4, lb_cst5, lb_cst6, lb_clsA0, lb_clsI0, sTry]
  unfold dueS at hq
  by_cases h : IsTerms t
  · rw [if_pos (isTm_t h)] at hq
    have h0 := h
    obtain ⟨k, r, xs, rfl, hx⟩ := h
    have hw' : wdOf (termsW k r (xs.map axW)) v = isWd k r v := rfl
    have ht' : tmOf (termsW k r (xs.map axW)) u = (good k r 20 u 0).1 := rfl
    rw [hw', ht'] at hq
    by_cases h1 : isWd k r v = true
    · rw [if_pos h1] at hq
      obtain ⟨w, rfl, hw⟩ := wd_inv hx.k2 hx.r2 hv h1
      by_cases h2 : (good k r 20 u 0).1 = true
      · rw [if_pos h2] at hq
        obtain ⟨tt, rfl, w1, w2, _, _⟩ := good_inv 20 _ _ h2
        refine call_pu (r := intsW (inT w tt)) (fun Q E hq => ?_) (Dn.of hq)
        refine ⟨rfl, ?_⟩
        show dSs _ _ t_things_of [some (termsW k r (xs.map axW)), some (worldW w), some (toW tt)] μ _ _
        simp only [t_things_of, dSs, dS, dE, dA, dT, dAnds, dOrs, dTAnds, dTOrs, dIfs, dO, dG, dGs, dI, lenGs, sSeq, sIf, sRet, sRetN, sAsg, sDrop, sNext, sPar, sPar3, sBreak, sCont, eVar, eC, eOp, eUn, eChain, eAnd, eOr, eNot, eIte, aNil, aCons, eTup, eLst, eCall, eCB, tVal, tAndM, tOrM, tNotM, eSl, pSome, pNone, eDk0, eDt0, eDkc, gNm, gTp, gNl, gCn, wipeM, List.map_cons, List.map_nil, le_ii, lt_ii, gt_ii, ge_ii, add_ii, sub_ii, iadd_ii, neg_i, len_t, int_i, abs_i, List.getElem?_cons_zero, List.getElem?_cons_succ, List.set_cons_zero, List.set_cons_succ, List.length_cons, List.length_nil, Option.some.injEq, W.bl.injEq, W.int.injEq, W.str.injEq, W.tup.injEq, exists_eq_left', exists_eq_left, ↓reduceIte, Bool.not_true, Bool.not_false, Bool.false_eq_true, if_true, if_false, tb_bop0, tb_bop1, tb_bop2, tb_bop3, tb_bop4, tb_bop5, tb_bop6, tb_aug0, tb_aug1, tb_cop0, tb_cop1, tb_cop2, tb_cop3, tb_cop4, tb_cop5, tb_cop6, tb_cop7, tb_cop8, tb_cop9, tb_cop10, tb_cop11, tb_cop12, tb_ix0, tb_ix1, tb_set0, tb_set1, tb_set2, tb_bc0, tb_bc1, tb_bc2, tb_bc3, tb_bc4, tb_bc5, tb_bc6, tb_bc7, tb_bc8, tb_bc9, tb_bc10, tb_bc11, tb_bc12, tb_bc13, tb_bc14, tb_bc15, tb_bc16, tb_bc17, tb_bc18, tb_lf0, tb_lf1, tb_lf2, tb_lf3, tb_lf4, tb_lf5, tb_lf6, tb_bm0, tb_bm1, tb_bm2, tb_bm3, tb_bm4, tb_it0, tb_it1, tb_it2, tb_it3, tb_it4, tb_spc0, tb_spc1, tb_spc2, lb_bops, lb_augs, lb_cops, lb_ixs, lb_sets, lb_bcs, lb_lfs, lb_bms, lb_its, lb_spcs, lb_cst0, lb_cst1, lb_cst2, lb_cst3, lb_cst4, lb_cst5, lb_cst6, lb_clsA0, lb_clsI0]
        exact call_pu (sp_check_terms (by omega) ht h0) (call_pu (sp_check_world (by decide) hv h1) (call_pu (sp_check_term (by omega) hu h2) (call_pu (sp_members hw tt _ μ w1 (by omega)) (Dn.of hq))))
      · rw [if_neg h2] at hq
        have h2' : (good k r 20 u 0).1 = false := by simpa using h2
        refine call_rz (x := "BadTerm") (fun Q E hq => ?_) ⟨by decide +kernel, ?_⟩
        · refine ⟨rfl, ?_⟩
          show dSs _ _ t_things_of [some (termsW k r (xs.map axW)), some (worldW w), some u] μ _ _
          simp only [t_things_of, dSs, dS, dE, dA, dT, dAnds, dOrs, dTAnds, dTOrs, dIfs, dO, dG, dGs, dI, lenGs, sSeq, sIf, sRet, sRetN, sAsg, sDrop, sNext, sPar, sPar3, sBreak, sCont, eVar, eC, eOp, eUn, eChain, eAnd, eOr, eNot, eIte, aNil, aCons, eTup, eLst, eCall, eCB, tVal, tAndM, tOrM, tNotM, eSl, pSome, pNone, eDk0, eDt0, eDkc, gNm, gTp, gNl, gCn, wipeM, List.map_cons, List.map_nil, le_ii, lt_ii, gt_ii, ge_ii, add_ii, sub_ii, iadd_ii, neg_i, len_t, int_i, abs_i, List.getElem?_cons_zero, List.getElem?_cons_succ, List.set_cons_zero, List.set_cons_succ, List.length_cons, List.length_nil, Option.some.injEq, W.bl.injEq, W.int.injEq, W.str.injEq, W.tup.injEq, exists_eq_left', exists_eq_left, ↓reduceIte, Bool.not_true, Bool.not_false, Bool.false_eq_true, if_true, if_false, tb_bop0, tb_bop1, tb_bop2, tb_bop3, tb_bop4, tb_bop5, tb_bop6, tb_aug0, tb_aug1, tb_cop0, tb_cop1, tb_cop2, tb_cop3, tb_cop4, tb_cop5, tb_cop6, tb_cop7, tb_cop8, tb_cop9, tb_cop10, tb_cop11, tb_cop12, tb_ix0, tb_ix1, tb_set0, tb_set1, tb_set2, tb_bc0, tb_bc1, tb_bc2, tb_bc3, tb_bc4, tb_bc5, tb_bc6, tb_bc7, tb_bc8, tb_bc9, tb_bc10, tb_bc11, tb_bc12, tb_bc13, tb_bc14, tb_bc15, tb_bc16, tb_bc17, tb_bc18, tb_lf0, tb_lf1, tb_lf2, tb_lf3, tb_lf4, tb_lf5, tb_lf6, tb_bm0, tb_bm1, tb_bm2, tb_bm3, tb_bm4, tb_it0, tb_it1, tb_it2, tb_it3, tb_it4, tb_spc0, tb_spc1, tb_spc2, lb_bops, lb_augs, lb_cops, lb_ixs, lb_sets, lb_bcs, lb_lfs, lb_bms, lb_its, lb_spcs, lb_cst0, lb_cst1, lb_cst2, lb_cst3, lb_cst4, lb_cst5, lb_cst6, lb_clsA0, lb_clsI0]
          exact call_pu (sp_check_terms (by omega) ht h0) (call_pu (sp_check_world (by decide) hv h1) (call_rz (rz_check_term (by omega) hu h2') (Dn.of hq)))
        · unfold handle
          rw [if_neg (by decide +kernel)]
          unfold handle
          rw [if_neg (by decide +kernel)]
          unfold handle
          rw [if_pos rfl]
          exact Dn.of hq
    · rw [if_neg h1] at hq
      have h1' : isWd k r v = false := by simpa using h1
      refine call_rz (x := "BadWorld") (fun Q E hq => ?_) ⟨by decide +kernel, ?_⟩
      · refine ⟨rfl, ?_⟩
        show dSs _ _ t_things_of [some (termsW k r (xs.map axW)), some v, some u] μ _ _
        simp only [t_things_of, dSs, dS, dE, dA, dT, dAnds, dOrs, dTAnds, dTOrs, dIfs, dO, dG, dGs, dI, lenGs, sSeq, sIf, sRet, sRetN, sAsg, sDrop, sNext, sPar, sPar3, sBreak, sCont, eVar, eC, eOp, eUn, eChain, eAnd, eOr, eNot, eIte, aNil, aCons, eTup, eLst, eCall, eCB, tVal, tAndM, tOrM, tNotM, eSl, pSome, pNone, eDk0, eDt0, eDkc, gNm, gTp, gNl, gCn, wipeM, List.map_cons, List.map_nil, le_ii, lt_ii, gt_ii, ge_ii, add_ii, sub_ii, iadd_ii, neg_i, len_t, int_i, abs_i, List.getElem?_cons_zero, List.getElem?_cons_succ, List.set_cons_zero, List.set_cons_succ, List.length_cons, List.length_nil, Option.some.injEq, W.bl.injEq, W.int.injEq, W.str.injEq, W.tup.injEq, exists_eq_left', exists_eq_left, ↓reduceIte, Bool.not_true, Bool.not_false, Bool.false_eq_true, if_true, if_false, tb_bop0, tb_bop1, tb_bop2, tb_bop3, tb_bop4, tb_bop5, tb_bop6, tb_aug0, tb_aug1, tb_cop0, tb_cop1, tb_cop2, tb_cop3, tb_cop4, tb_cop5, tb_cop6, tb_cop7, tb_cop8, tb_cop9, tb_cop10, tb_cop11, tb_cop12, tb_ix0, tb_ix1, tb_set0, tb_set1, tb_set2, tb_bc0, tb_bc1, tb_bc2, tb_bc3, tb_bc4, tb_bc5, tb_bc6, tb_bc7, tb_bc8, tb_bc9, tb_bc10, tb_bc11, tb_bc12, tb_bc13, tb_bc14, tb_bc15, tb_bc16, tb_bc17, tb_bc18, tb_lf0, tb_lf1, tb_lf2, tb_lf3, tb_lf4, tb_lf5, tb_lf6, tb_bm0, tb_bm1, tb_bm2, tb_bm3, tb_bm4, tb_it0, tb_it1, tb_it2, tb_it3, tb_it4, tb_spc0, tb_spc1, tb_spc2, lb_bops, lb_augs, lb_cops, lb_ixs, lb_sets, lb_bcs, lb_lfs, lb_bms, lb_its, lb_spcs, lb_cst0, lb_cst1, lb_cst2, lb_cst3, lb_cst4, lb_cst5, lb_cst6, lb_clsA0, lb_clsI0]
        exact call_pu (sp_check_terms (by omega) ht h0) (call_rz (rz_check_world (by decide) hv h1') (Dn.of hq))
      · unfold handle
        rw [if_neg (by decide +kernel)]
        unfold handle
        rw [if_pos rfl]
        exact Dn.of hq
  · rw [if_neg (by rw [isTm_f h]; decide)] at hq
    refine call_rz (x := "BadTerms") (fun Q E hq => ?_) ⟨by decide +kernel, ?_⟩
    · refine ⟨rfl, ?_⟩
      show dSs _ _ t_things_of [some t, some v, some u] μ _ _
      simp only [t_things_of, dSs, dS, dE, dA, dT, dAnds, dOrs, dTAnds, dTOrs, dIfs, dO, dG, dGs, dI, lenGs, sSeq, sIf, sRet, sRetN, sAsg, sDrop, sNext, sPar, sPar3, sBreak, sCont, eVar, eC, eOp, eUn, eChain, eAnd, eOr, eNot, eIte, aNil, aCons, eTup, eLst, eCall, eCB, tVal, tAndM, tOrM, tNotM, eSl, pSome, pNone, eDk0, eDt0, eDkc, gNm, gTp, gNl, gCn, wipeM, List.map_cons, List.map_nil, le_ii, lt_ii, gt_ii, ge_ii, add_ii, sub_ii, iadd_ii, neg_i, len_t, int_i, abs_i, List.getElem?_cons_zero, List.getElem?_cons_succ, List.set_cons_zero, List.set_cons_succ, List.length_cons, List.length_nil, Option.some.injEq, W.bl.injEq, W.int.injEq, W.str.injEq, W.tup.injEq, exists_eq_left', exists_eq_left, ↓reduceIte, Bool.not_true, Bool.not_false, Bool.false_eq_true, if_true, if_false, tb_bop0, tb_bop1, tb_bop2, tb_bop3, tb_bop4, tb_bop5, tb_bop6, tb_aug0, tb_aug1, tb_cop0, tb_cop1, tb_cop2, tb_cop3, tb_cop4, tb_cop5, tb_cop6, tb_cop7, tb_cop8, tb_cop9, tb_cop10, tb_cop11, tb_cop12, tb_ix0, tb_ix1, tb_set0, tb_set1, tb_set2, tb_bc0, tb_bc1, tb_bc2, tb_bc3, tb_bc4, tb_bc5, tb_bc6, tb_bc7, tb_bc8, tb_bc9, tb_bc10, tb_bc11, tb_bc12, tb_bc13, tb_bc14, tb_bc15, tb_bc16, tb_bc17, tb_bc18, tb_lf0, tb_lf1, tb_lf2, tb_lf3, tb_lf4, tb_lf5, tb_lf6, tb_bm0, tb_bm1, tb_bm2, tb_bm3, tb_bm4, tb_it0, tb_it1, tb_it2, tb_it3, tb_it4, tb_spc0, tb_spc1, tb_spc2, lb_bops, lb_augs, lb_cops, lb_ixs, lb_sets, lb_bcs, lb_lfs, lb_bms, lb_its, lb_spcs, lb_cst0, lb_cst1, lb_cst2, lb_cst3, lb_cst4, lb_cst5, lb_cst6, lb_clsA0, lb_clsI0]
      exact call_rz (rz_check_terms (by omega) ht h) (Dn.of hq)
    · unfold handle
      rw [if_pos rfl]
      exact Dn.of hq
end
end K01
set_option Elab.async false
set_option autoImplicit false
set_option linter.all false
set_option maxRecDepth 100000
namespace K01
open PySem PySem.Spec PyProof.Rows L2 MP
theorem o_addt {xs ys : List W} {μ : Mem} {Q : MQ} (h : xs.length + ys.length ≤ 1000000) (q : Q (.tup (xs ++ ys)) μ) : oAdd (.tup xs) (.tup ys) μ Q := ⟨le_line h, q⟩
theorem cut_from (xs : List W) (n : Nat) : cutW xs (some (n : Int)) none = xs.drop n := by
  unfold cutW
  rw [HT.sIx_nat xs.length _ n, HT.sIx_none]
  by_cases h : xs.length ≤ n
  · rw [Nat.min_eq_right h, List.drop_of_length_le h, List.drop_length, List.take_nil]
  · rw [Nat.min_eq_left (by omega)]
    exact List.take_of_length_le (by rw [List.length_drop]; exact Nat.le_refl _)
theorem cut_mid (xs : List W) (a b : Nat) : ∃ ys, cutW xs (some (a : Int)) (some (b : Int)) = ys ∧ (∀ w ∈ ys, w ∈ xs) ∧ ys.length ≤ min b xs.length - min a xs.length := by
  refine ⟨_, rfl, ?_, ?_⟩
  · intro w hw
    exact List.mem_of_mem_drop (List.mem_of_mem_take hw)
  · unfold cutW
    rw [HT.sIx_nat xs.length _ a, HT.sIx_nat xs.length _ b, List.length_take]
    omega
theorem dWs_le {B : Nat} : ∀ {ws : List W}, (∀ w ∈ ws, dW w ≤ B) → dWs ws ≤ B
  | [], _ => Nat.zero_le _
  | w :: r, h => by
    have h1 := h w List.mem_cons_self
    have h2 := dWs_le (ws := r) fun u hu => h u (List.mem_cons_of_mem _ hu)
    show max (dW w) (dWs r) ≤ B
    omega
section
variable {p : Addr} {L : Nat} {μ μ' : Mem}
theorem Vl.bx {v : W} (h : Vl p μ L v) (b : Bx p μ μ') : Vl p μ' L v := h.imp (fun a xs n e => ⟨xs, b.kp a _ n e⟩) (Nat.le_refl _)
theorem Vl.le {L' : Nat} {v : W} (h : Vl p μ L v) (hL : L ≤ L') : Vl p μ L' v := h.imp (fun a xs _ e => ⟨xs, e⟩) hL
/-- a tuple out of parts of another one, and x -/
theorem spl {ws ws' : List W} {x : W} {B : Nat} (hv : Vl p μ L (.tup ws)) (hx : Vl p μ (L + 1) x) (h : ∀ w ∈ ws', w ∈ ws ∨ w = x) (hl : ws'.length ≤ L + 1) (hB : dW x + 1 ≤ B) : Vl p μ (L + 1) (.tup ws') ∧ dW (.tup ws') ≤ max (dW (.tup ws)) B := by
  refine ⟨.tup ws' (fun w hw => ?_) hl, ?_⟩
  · rcases h w hw with h | h
    · exact (hv.mem h).le (Nat.le_succ _)
    · rw [h]; exact hx
  · have e1 : dW (.tup ws) = dWs ws + 1 := rfl
    have e2 : dW (.tup ws') = dWs ws' + 1 := rfl
    have : dWs ws' ≤ max (dWs ws) (dW x) := dWs_le fun w hw => by
      rcases h w hw with h | h
      · have := dWs_mem h
        omega
      · rw [h]; omega
    omega
end
theorem list_t {xs : List W} {μ : Mem} {Q : MQ} (q : ∀ p, μ p = none → Q (.ref p) (updM μ p (.lst xs))) : oListOf [.tup xs] μ Q := q
section
variable {c : List Addr} {p : Addr} {L : Nat} {o : W}
theorem sp_law_spoilt (hL : L ≤ 1000) (ho2 : dW o ≤ 2) : ∀ (l n : Nat) (v : W) (μ : Mem), l + 3 ≤ n → BgX p μ → Vl p μ L v → Vl p μ L o →
    Gv (Gm c n j_law_spoilt) [.ref p, v, o, .int l] μ (fun x μ' => (Vl p μ' (L + 1) x ∧ dW x ≤ max (dW v) (l + 2)) ∧ Bx p μ μ') := by
  intro l
  induction l with
  | zero =>
    intro n v μ hn hb hv ho Q E hq
    obtain ⟨n, rfl⟩ : ∃ j, n = j + 3 := ⟨n - 3, by omega⟩
    refine ⟨rfl, ?_⟩
    show dSs _ _ t_law_spoilt [some (.ref p), some v, some o, some (.int 0), none, none] μ _ _
    simp only [t_law_spoilt, dSs, dS, dE, dA, dT, dAnds, dOrs, dTAnds, dTOrs, dIfs, dO, dG, dGs, dI, lenGs, sSeq, sIf, sRet, sRetN, sAsg, sDrop, sNext, sPar, sPar3, sBreak, sCont, eVar, eC, eOp, eUn, eChain, eAnd, eOr, eNot, eIte, aNil, aCons, eTup, eLst, eCall, eCB, tVal, tAndM, tOrM, tNotM, eSl, pSome, pNone, eDk0, eDt0, eDkc, gNm, gTp, gNl, gCn, wipeM, List.map_cons, List.map_nil, le_ii, lt_ii, gt_ii, ge_ii, add_ii, sub_ii, iadd_ii, neg_i, len_t, int_i, abs_i, List.getElem?_cons_zero, List.getElem?_cons_succ, List.set_cons_zero, List.set_cons_succ, List.length_cons, List.length_nil, Option.some.injEq, W.bl.injEq, W.int.injEq, W.str.injEq, W.tup.injEq, exists_eq_left', exists_eq_left, ↓reduceIte, Bool.not_true, Bool.not_false, Bool.false_eq_true, if_true, if_false, tb_bop0, tb_bop1, tb_bop2, tb_bop3, tb_bop4, tb_bop5, tb_bop6, tb_aug0, tb_aug1, tb_cop0, tb_cop1, tb_cop2, tb_cop3, tb_cop4, tb_cop5, tb_cop6, tb_cop7, tb_cop8, tb_cop9, tb_cop10, tb_cop11, tb_cop12, tb_ix0, tb_ix1, tb_set0, tb_set1, tb_set2, tb_bc0, tb_bc1, tb_bc2, tb_bc3, tb_bc4, tb_bc5, tb_bc6, tb_bc7, tb_bc8, tb_bc9, tb_bc10, tb_bc11, tb_bc12, tb_bc13, tb_bc14, tb_bc15, tb_bc16, tb_bc17, tb_bc18, tb_lf0, tb_lf1, tb_lf2, tb_lf3, tb_lf4, tb_lf5, tb_lf6, tb_bm0, tb_bm1, tb_bm2, tb_bm3, tb_bm4, tb_it0, tb_it1, tb_it2, tb_it3, tb_it4, tb_spc0, tb_spc1, tb_spc2, lb_bops, lb_augs, lb_cops, lb_ixs, lb_sets, lb_bcs, lb_lfs, lb_bms, lb_its, lb_spcs, lb_cst0, lb_cst1, lb_cst2, lb_cst3, lb_cst4, lb_cst5, lb_cst6, lb_clsA0, lb_clsI0]
    exact o_eqi ⟨_, rfl, (if_pos (by decide)).mpr (Dn.of (hq _ _ ⟨⟨ho.le (Nat.le_succ _), by omega⟩, Bx.refl hb⟩))⟩
  | succ l ih =>
    intro n v μ hn hb hv ho Q E hq
    obtain ⟨n, rfl⟩ : ∃ j, n = j + 3 := ⟨n - 3, by omega⟩
    have el : (((l + 1 : Nat) : Int) - 1) = (l : Int) := by omega
    refine ⟨rfl, ?_⟩
    show dSs _ _ t_law_spoilt [some (.ref p), some v, some o, some (.int ((l + 1 : Nat) : Int)), none, none] μ _ _
    simp only [t_law_spoilt, dSs, dS, dE, dA, dT, dAnds, dOrs, dTAnds, dTOrs, dIfs, dO, dG, dGs, dI, lenGs, sSeq, sIf, sRet, sRetN, sAsg, sDrop, sNext, sPar, sPar3, sBreak, sCont, eVar, eC, eOp, eUn, eChain, eAnd, eOr, eNot, eIte, aNil, aCons, eTup, eLst, eCall, eCB, tVal, tAndM, tOrM, tNotM, eSl, pSome, pNone, eDk0, eDt0, eDkc, gNm, gTp, gNl, gCn, wipeM, List.map_cons, List.map_nil, le_ii, lt_ii, gt_ii, ge_ii, add_ii, sub_ii, iadd_ii, neg_i, len_t, int_i, abs_i, List.getElem?_cons_zero, List.getElem?_cons_succ, List.set_cons_zero, List.set_cons_succ, List.length_cons, List.length_nil, Option.some.injEq, W.bl.injEq, W.int.injEq, W.str.injEq, W.tup.injEq, exists_eq_left', exists_eq_left, ↓reduceIte, Bool.not_true, Bool.not_false, Bool.false_eq_true, if_true, if_false, tb_bop0, tb_bop1, tb_bop2, tb_bop3, tb_bop4, tb_bop5, tb_bop6, tb_aug0, tb_aug1, tb_cop0, tb_cop1, tb_cop2, tb_cop3, tb_cop4, tb_cop5, tb_cop6, tb_cop7, tb_cop8, tb_cop9, tb_cop10, tb_cop11, tb_cop12, tb_ix0, tb_ix1, tb_set0, tb_set1, tb_set2, tb_bc0, tb_bc1, tb_bc2, tb_bc3, tb_bc4, tb_bc5, tb_bc6, tb_bc7, tb_bc8, tb_bc9, tb_bc10, tb_bc11, tb_bc12, tb_bc13, tb_bc14, tb_bc15, tb_bc16, tb_bc17, tb_bc18, tb_lf0, tb_lf1, tb_lf2, tb_lf3, tb_lf4, tb_lf5, tb_lf6, tb_bm0, tb_bm1, tb_bm2, tb_bm3, tb_bm4, tb_it0, tb_it1, tb_it2, tb_it3, tb_it4, tb_spc0, tb_spc1, tb_spc2, lb_bops, lb_augs, lb_cops, lb_ixs, lb_sets, lb_bcs, lb_lfs, lb_bms, lb_its, lb_spcs, lb_cst0, lb_cst1, lb_cst2, lb_cst3, lb_cst4, lb_cst5, lb_cst6, lb_clsA0, lb_clsI0, el]
    have odd : ∀ μ', Bx p μ μ' → Dn Q o μ' := fun μ' b => Dn.of (hq _ _ ⟨⟨(ho.bx b).le (Nat.le_succ _), by omega⟩, b⟩)
    refine o_eqi ⟨_, rfl, (if_neg (by rw [decide_eq_true_eq]; omega)).mpr (isi_tupV hv ⟨_, rfl, ?_⟩)⟩
    have hv0 := hv
    cases hv with
    | tup ws hws hwl =>
      refine (if_neg (by simp [isTup])).mpr ?_
      simp only [len_t]
      refine o_eqi ⟨_, rfl, ?_⟩
      by_cases h0 : (ws.length : Int) = 0
      · exact (if_pos (decide_eq_true h0)).mpr (odd μ (Bx.refl hb))
      · refine (if_neg (by rw [decide_eq_true_eq]; exact h0)).mpr (call_gv (sp_law_draw (by decide) (by decide) hb) fun x μ1 hx => ?_)
        obtain ⟨⟨d, rfl, d0, d1⟩, b1⟩ := hx
        refine o_eqi ⟨_, rfl, ?_⟩
        by_cases hd : d = 0
        · exact (if_pos (decide_eq_true hd)).mpr (odd μ1 b1)
        · refine (if_neg (by rw [decide_eq_true_eq]; exact hd)).mpr (call_gv (sp_law_draw (by omega) (by omega) b1.tp) fun x μ2 hx => ?_)
          obtain ⟨⟨at', rfl, a0, a1⟩, b2⟩ := hx
          obtain ⟨a, rfl⟩ := Int.eq_ofNat_of_zero_le a0
          have hal : a < ws.length := by omega
          refine call_gv (sp_law_draw (by decide) (by decide) b2.tp) fun x μ3 hx => ?_
          obtain ⟨⟨pk, rfl, p0, p1⟩, b3⟩ := hx
          have b13 := b1.trans (b2.trans b3)
          have v3 := hv0.bx b13
          have o3 := (ho.bx b13).le (Nat.le_succ L)
          have e1 : (a : Int) + 1 = ((a + 1 : Nat) : Int) := by omega
          have e2 : (a : Int) + 2 = ((a + 2 : Nat) : Int) := by omega
          have fin : ∀ ws' : List W, (∀ w ∈ ws', w ∈ ws ∨ w = o) → ws'.length ≤ L + 1 → Dn Q (.tup ws') μ3 := fun ws' h1 h2 => Dn.of (hq _ _ ⟨spl v3 o3 h1 h2 (by omega), b13⟩)
          obtain ⟨m1, em1, hm1, lm1⟩ := cut_mid ws (a + 1) (a + 2)
          obtain ⟨m2, em2, hm2, lm2⟩ := cut_mid ws a (a + 1)
          simp only [add_ii, e1, e2, W.int.injEq, exists_eq_left', cut_to, cut_from, em1, em2]
          have tk : ∀ (j : Nat) (w : W), w ∈ ws.take j → w ∈ ws := fun j w h => List.mem_of_mem_take h
          have dr : ∀ (j : Nat) (w : W), w ∈ ws.drop j → w ∈ ws := fun j w h => List.mem_of_mem_drop h
          refine o_eqi ⟨_, rfl, ?_⟩
          by_cases q0 : pk = 0
          · refine (if_pos (decide_eq_true q0)).mpr (o_addt (by rw [List.length_take, List.length_drop]; omega) (fin _ (fun w hw => ?_) (by rw [List.length_append, List.length_take, List.length_drop]; omega)))
            rcases List.mem_append.mp hw with h | h
            · exact .inl (tk _ _ h)
            · exact .inl (dr _ _ h)
          · refine (if_neg (by rw [decide_eq_true_eq]; exact q0)).mpr (o_eqi ⟨_, rfl, ?_⟩)
            by_cases q1 : pk = 1
            · refine (if_pos (decide_eq_true q1)).mpr ⟨by decide, o_addt (by rw [List.length_take, List.length_singleton]; omega) (o_addt (by rw [List.length_append, List.length_take, List.length_drop, List.length_singleton]; omega) (fin _ (fun w hw => ?_) (by simp only [List.length_append, List.length_take, List.length_drop, List.length_singleton]; omega)))⟩
              rcases List.mem_append.mp hw with h | h
              · rcases List.mem_append.mp h with h | h
                · exact .inl (tk _ _ h)
                · exact .inr (List.mem_singleton.mp h)
              · exact .inl (dr _ _ h)
            · refine (if_neg (by rw [decide_eq_true_eq]; exact q1)).mpr (o_eqi ⟨_, rfl, ?_⟩)
              by_cases q2 : pk = 2
              · refine (if_pos (decide_eq_true q2)).mpr (o_addt (by rw [List.length_take, List.length_drop]; omega) (fin _ (fun w hw => ?_) (by rw [List.length_append, List.length_take, List.length_drop]; omega)))
                rcases List.mem_append.mp hw with h | h
                · exact .inl (tk _ _ h)
                · exact .inl (dr _ _ h)
              · refine (if_neg (by rw [decide_eq_true_eq]; exact q2)).mpr (o_eqi ⟨_, rfl, ?_⟩)
                by_cases q3 : pk = 3
                · refine (if_pos (decide_eq_true q3)).mpr (o_addt (by rw [List.length_take]; omega) (o_addt (by rw [List.length_append, List.length_take]; omega) (o_addt (by simp only [List.length_append, List.length_take, List.length_drop]; omega) (fin _ (fun w hw => ?_) (by simp only [List.length_append, List.length_take, List.length_drop]; omega)))))
                  rcases List.mem_append.mp hw with h | h
                  · rcases List.mem_append.mp h with h | h
                    · rcases List.mem_append.mp h with h | h
                      · exact .inl (tk _ _ h)
                      · exact .inl (hm1 _ h)
                    · exact .inl (hm2 _ h)
                  · exact .inl (dr _ _ h)
                · refine (if_neg (by rw [decide_eq_true_eq]; exact q3)).mpr (o_eqi ⟨_, rfl, ?_⟩)
                  by_cases q4 : pk = 4
                  · refine (if_pos (decide_eq_true q4)).mpr (list_t fun q hq' => ?_)
                    have nq := b13.tp.fresh hq'
                    exact Dn.of (hq _ _ ⟨⟨.lst q ws nq updM_same, Nat.zero_le _⟩, b13.trans (Bx.new b13.tp hq')⟩)
                  · refine (if_neg (by rw [decide_eq_true_eq]; exact q4)).mpr ?_
                    have ea : ws[a]? = some ws[a] := List.getElem?_eq_getElem hal
                    refine ix_t (i := a) ea (call_gv (ih (n + 2) ws[a] μ3 (by omega) b3.tp (v3.mem (List.getElem_mem hal)) (ho.bx b13)) fun x μ4 hx => ?_)
                    obtain ⟨⟨vx, dx⟩, b4⟩ := hx
                    have b14 := b13.trans b4
                    refine ⟨by decide, o_addt (by rw [List.length_take, List.length_singleton]; omega) (o_addt (by rw [List.length_append, List.length_take, List.length_drop, List.length_singleton]; omega) ?_)⟩
                    have hw' := dWs_mem (List.getElem_mem hal)
                    have e5 : dW (.tup ws) = dWs ws + 1 := rfl
                    have sp := spl (ws' := ws.take a ++ [x] ++ ws.drop (a + 1)) (B := max (dW (.tup ws)) (l + 1 + 2)) (hv0.bx b14) vx (fun w hw => by
                      rcases List.mem_append.mp hw with h | h
                      · rcases List.mem_append.mp h with h | h
                        · exact .inl (tk _ _ h)
                        · exact .inr (List.mem_singleton.mp h)
                      · exact .inl (dr _ _ h)) (by simp only [List.length_append, List.length_take, List.length_drop, List.length_singleton]; omega) (by omega)
                    exact Dn.of (hq _ _ ⟨⟨sp.1, by have := sp.2; omega⟩, b14⟩)
    | _ => exact (if_pos rfl).mpr (odd μ (Bx.refl hb))
end
end K01
set_option Elab.async false
set_option autoImplicit false
set_option linter.all false
set_option maxRecDepth 100000
namespace K01
open PySem PySem.Spec PyProof.Rows L2 MP
section
variable {p : Addr} {L : Nat} {μ : Mem}
theorem vl_tup {ws : List W} (hl : ws.length ≤ L) (h : ∀ w ∈ ws, Vl p μ L w) : Vl p μ L (.tup ws) := .tup ws h hl
theorem vl_t1 {a : W} (hL : 1 ≤ L) (ha : Vl p μ L a) : Vl p μ L (.tup [a]) := .tup _ (fun w hw => by rw [List.mem_singleton.mp hw]; exact ha) hL
theorem vl_t2 {a b : W} (hL : 2 ≤ L) (ha : Vl p μ L a) (hb : Vl p μ L b) : Vl p μ L (.tup [a, b]) := .tup _ (fun w hw => by
  simp only [List.mem_cons, List.not_mem_nil, or_false] at hw
  rcases hw with rfl | rfl
  · exact ha
  · exact hb) hL
theorem vl_t3 {a b d : W} (hL : 3 ≤ L) (ha : Vl p μ L a) (hb : Vl p μ L b) (hd : Vl p μ L d) : Vl p μ L (.tup [a, b, d]) := .tup _ (fun w hw => by
  simp only [List.mem_cons, List.not_mem_nil, or_false] at hw
  rcases hw with rfl | rfl | rfl
  · exact ha
  · exact hb
  · exact hd) hL
theorem vl_t4 {a b d e : W} (hL : 4 ≤ L) (ha : Vl p μ L a) (hb : Vl p μ L b) (hd : Vl p μ L d) (he : Vl p μ L e) : Vl p μ L (.tup [a, b, d, e]) := .tup _ (fun w hw => by
  simp only [List.mem_cons, List.not_mem_nil, or_false] at hw
  rcases hw with rfl | rfl | rfl | rfl
  · exact ha
  · exact hb
  · exact hd
  · exact he) hL
theorem vl_T (hL : 3 ≤ L) : ∀ t : Tm, Vl p μ L (toW t)
  | .any => vl_t1 (by omega) (.str _ sk_any)
  | .none => vl_t1 (by omega) (.str _ sk_none)
  | .kind _ => vl_t2 (by omega) (.str _ sk_kind) (.int _)
  | .var _ => vl_t2 (by omega) (.str _ sk_var) (.int _)
  | .some _ t => vl_t3 hL (.str _ sk_some) (.int _) (vl_T hL t)
  | .both a b => vl_t3 hL (.str _ sk_both) (vl_T hL a) (vl_T hL b)
theorem vl_A (hL : 4 ≤ L) : ∀ x : Axm, Vl p μ L (axW x)
  | .is a b => vl_t3 (by omega) (.str _ sk_is) (vl_T (by omega) a) (vl_T (by omega) b)
  | .within _ _ => vl_t3 (by omega) (.str _ sk_within) (.int _) (.int _)
  | .chain _ _ _ => vl_t4 hL (.str _ sk_chain) (.int _) (.int _) (.int _)
theorem vl_terms {k r : Int} {axs : List W} (hL : 4 ≤ L) (hl : axs.length ≤ L) (h : ∀ w ∈ axs, Vl p μ L w) : Vl p μ L (termsW k r axs) := vl_t4 hL (.str _ sk_terms) (.int _) (.int _) (.tup _ h hl)
theorem dw_A {k r : Int} : ∀ x : Axm, wfA k r x → dW (axW x) ≤ 5
  | .is a b, h => by
    obtain ⟨_, _, _, _, d1, d2⟩ := h
    have c1 := dW_T a
    have c2 := dW_T b
    show max 0 (max (dW (toW a)) (max (dW (toW b)) 0)) + 1 ≤ 5
    omega
  | .within _ _, _ => by show 0 + 1 ≤ 5; omega
  | .chain _ _ _, _ => by show 0 + 1 ≤ 5; omega
theorem dw_terms {k r : Int} {axs : List W} {B : Nat} (h : ∀ w ∈ axs, dW w ≤ B) : dW (termsW k r axs) ≤ B + 2 := by
  have h1 := dWs_le h
  show max 0 (max 0 (max 0 (max (dWs axs + 1) 0))) + 1 ≤ B + 2
  omega
theorem vl_ints {l : List Int} (hl : l.length ≤ L) : Vl p μ L (intsW l) := .tup _ (fun w hw => by
  obtain ⟨i, _, rfl⟩ := List.mem_map.mp hw
  exact .int i) (by rw [List.length_map]; exact hl)
theorem vl_prs {l : List (Int × Int)} (h2 : 2 ≤ L) (hl : l.length ≤ L) : Vl p μ L (prsW l) := .tup _ (fun w hw => by
  obtain ⟨i, _, rfl⟩ := List.mem_map.mp hw
  exact vl_t2 h2 (.int _) (.int _)) (by rw [List.length_map]; exact hl)
theorem asc_len {n : Nat} {l : List Int} (h : l.Pairwise (· < ·)) (hb : ∀ x ∈ l, 0 ≤ x ∧ x < n) : l.length ≤ n := by
  have := nodup_le (l := l) (m := (List.range n).map fun j : Nat => (j : Int)) (List.Pairwise.imp (fun {a b} h e => by omega) h) fun x hx => List.mem_map.mpr ⟨x.toNat, List.mem_range.mpr (by have := hb x hx; omega), by have := hb x hx; omega⟩
  rwa [List.length_map, List.length_range] at this
theorem vl_world {k r : Int} {w : Wd} (hk : k ≤ 16) (hr : r ≤ 6) (hw : WdOk k r w) (sw : Small w) : Vl p μ 18 (worldW w) := by
  have hkl := hw.kl
  have hrl := hw.rl
  have hn := sw.n
  refine vl_t4 (by decide) (.str _ sk_world) (.int _) (.tup _ (fun u hu => ?_) (by rw [List.length_map]; omega)) (.tup _ (fun u hu => ?_) (by rw [List.length_map]; omega))
  · obtain ⟨l, hl, rfl⟩ := List.mem_map.mp hu
    have := asc_len (hw.ks l hl).up (hw.ks l hl).bd
    exact vl_ints (by omega)
  · obtain ⟨l, hl, rfl⟩ := List.mem_map.mp hu
    have := sw.rs l hl
    exact vl_prs (by decide) (by omega)
end
theorem ix_lst {a : Addr} {xs : List W} {i : Nat} {μ : Mem} {Q : MQ} (ha : μ a = some (.lst xs)) (h : i < xs.length) (q : Q xs[i] μ) : oIx (.ref a) (.int i) μ Q := ix_r (i := i) ha (List.getElem?_eq_getElem h) q
section
variable {c : List Addr} {p : Addr} {n : Nat} {μ : Mem}
theorem sp_law_tall (hb : BgX p μ) : Gv (Gm c (n + 3) j_law_tall) [.ref p] μ (fun x μ' => Vl p μ' 58 x ∧ Bx p μ μ') := fun Q E hq => by
  refine ⟨rfl, ?_⟩
  show dSs _ _ t_law_tall [some (.ref p), none, none] μ _ _
  simp only [t_law_tall, dSs, dS, dE, dA, dT, dAnds, dOrs, dTAnds, dTOrs, dIfs, dO, dG, dGs, dI, lenGs, sSeq, sIf, sRet, sRetN, sAsg, sDrop, sNext, sPar, sPar3, sBreak, sCont, eVar, eC, eOp, eUn, eChain, eAnd, eOr, eNot, eIte, aNil, aCons, eTup, eLst, eCall, eCB, tVal, tAndM, tOrM, tNotM, eSl, pSome, pNone, eDk0, eDt0, eDkc, gNm, gTp, gNl, gCn, wipeM, List.map_cons, List.map_nil, le_ii, lt_ii, gt_ii, ge_ii, add_ii, sub_ii, iadd_ii, neg_i, len_t, int_i, abs_i, List.getElem?_cons_zero, List.getElem?_cons_succ, List.set_cons_zero, List.set_cons_succ, List.length_cons, List.length_nil, Option.some.injEq, W.bl.injEq, W.int.injEq, W.str.injEq, W.tup.injEq, exists_eq_left', exists_eq_left, ↓reduceIte, Bool.not_true, Bool.not_false, Bool.false_eq_true, if_true, if_false, tb_bop0, tb_bop1, tb_bop2, tb_bop3, tb_bop4, tb_bop5, tb_bop6, tb_aug0, tb_aug1, tb_cop0, tb_cop1, tb_cop2, tb_cop3, tb_cop4, tb_cop5, tb_cop6, tb_cop7, tb_cop8, tb_cop9, tb_cop10, tb_cop11, tb_cop12, tb_ix0, tb_ix1, tb_set0, tb_set1, tb_set2, tb_bc0, tb_bc1, tb_bc2, tb_bc3, tb_bc4, tb_bc5, tb_bc6, tb_bc7, tb_bc8, tb_bc9, tb_bc10, tb_bc11, tb_bc12, tb_bc13, tb_bc14, tb_bc15, tb_bc16, tb_bc17, tb_bc18, tb_lf0, tb_lf1, tb_lf2, tb_lf3, tb_lf4, tb_lf5, tb_lf6, tb_bm0, tb_bm1, tb_bm2, tb_bm3, tb_bm4, tb_it0, tb_it1, tb_it2, tb_it3, tb_it4, tb_spc0, tb_spc1, tb_spc2, lb_bops, lb_augs, lb_cops, lb_ixs, lb_sets, lb_bcs, lb_lfs, lb_bms, lb_its, lb_spcs, lb_cst0, lb_cst1, lb_cst2, lb_cst3, lb_cst4, lb_cst5, lb_cst6, lb_clsA0, lb_clsI0, iFn, sFor]
  refine ⟨by decide, by decide, fun a ha => ?_⟩
  have e1 := Bx.new (o := .lst [.int 18, .int 19, .int 20, .int 28, .int 30, .int 200]) hb ha
  refine call_gv (sp_law_one updM_same (hb.fresh ha) (by simp) (by simp) e1.tp) fun x μ1 hx => ?_
  obtain ⟨hx, e2⟩ := hx
  have hm : ∃ m : Int, x = .int m ∧ 0 ≤ m ∧ m ≤ 200 := by
    simp only [List.mem_cons, List.not_mem_nil, or_false] at hx
    rcases hx with rfl | rfl | rfl | rfl | rfl | rfl
    · exact ⟨18, rfl, by decide, by decide⟩
    · exact ⟨19, rfl, by decide, by decide⟩
    · exact ⟨20, rfl, by decide, by decide⟩
    · exact ⟨28, rfl, by decide, by decide⟩
    · exact ⟨30, rfl, by decide, by decide⟩
    · exact ⟨200, rfl, by decide, by decide⟩
  obtain ⟨m, rfl, m0, m1⟩ := hm
  refine ⟨m, rfl, by omega, by omega, ?_⟩
  refine loopF_inv (fun i ρ μ' => ∃ t x2, ρ = [some (.ref p), some t, x2] ∧ Vl p μ' 58 t ∧ Bx p μ μ') (rangeW 0 m.toNat) 0 _ _ (fun i w ρ μ' N hi hI hN => ?_) (fun ρ μ' hI => ?_) ⟨_, _, rfl, vl_t2 (by decide) (.str _ sk_kind) (.int 0), e1.trans e2⟩
  · obtain ⟨t, x2, rfl, vt, bx⟩ := hI
    simp only [dSs, dS, dE, dA, dT, dAnds, dOrs, dTAnds, dTOrs, dIfs, dO, dG, dGs, dI, lenGs, sSeq, sIf, sRet, sRetN, sAsg, sDrop, sNext, sPar, sPar3, sBreak, sCont, eVar, eC, eOp, eUn, eChain, eAnd, eOr, eNot, eIte, aNil, aCons, eTup, eLst, eCall, eCB, tVal, tAndM, tOrM, tNotM, eSl, pSome, pNone, eDk0, eDt0, eDkc, gNm, gTp, gNl, gCn, wipeM, List.map_cons, List.map_nil, le_ii, lt_ii, gt_ii, ge_ii, add_ii, sub_ii, iadd_ii, neg_i, len_t, int_i, abs_i, List.getElem?_cons_zero, List.getElem?_cons_succ, List.set_cons_zero, List.set_cons_succ, List.length_cons, List.length_nil, Option.some.injEq, W.bl.injEq, W.int.injEq, W.str.injEq, W.tup.injEq, exists_eq_left', exists_eq_left, ↓reduceIte, Bool.not_true, Bool.not_false, Bool.false_eq_true, if_true, if_false, tb_bop0, tb_bop1, tb_bop2, tb_bop3, tb_bop4, tb_bop5, tb_bop6, tb_aug0, tb_aug1, tb_cop0, tb_cop1, tb_cop2, tb_cop3, tb_cop4, tb_cop5, tb_cop6, tb_cop7, tb_cop8, tb_cop9, tb_cop10, tb_cop11, tb_cop12, tb_ix0, tb_ix1, tb_set0, tb_set1, tb_set2, tb_bc0, tb_bc1, tb_bc2, tb_bc3, tb_bc4, tb_bc5, tb_bc6, tb_bc7, tb_bc8, tb_bc9, tb_bc10, tb_bc11, tb_bc12, tb_bc13, tb_bc14, tb_bc15, tb_bc16, tb_bc17, tb_bc18, tb_lf0, tb_lf1, tb_lf2, tb_lf3, tb_lf4, tb_lf5, tb_lf6, tb_bm0, tb_bm1, tb_bm2, tb_bm3, tb_bm4, tb_it0, tb_it1, tb_it2, tb_it3, tb_it4, tb_spc0, tb_spc1, tb_spc2, lb_bops, lb_augs, lb_cops, lb_ixs, lb_sets, lb_bcs, lb_lfs, lb_bms, lb_its, lb_spcs, lb_cst0, lb_cst1, lb_cst2, lb_cst3, lb_cst4, lb_cst5, lb_cst6, lb_clsA0, lb_clsI0]
    refine ⟨by decide, by decide, by decide, by decide, fun q hq' => ?_⟩
    have e3 := Bx.new (o := .lst [.tup [.str "both", t, .tup [.str "any"]], .tup [.str "some", .int 0, t]]) bx.tp hq'
    refine call_gv (sp_law_one updM_same (bx.tp.fresh hq') (by simp) (by simp) e3.tp) fun x μ2 hx => ?_
    obtain ⟨hx, e4⟩ := hx
    have vt2 := (vt.bx e3).bx e4
    refine hN _ _ ⟨x, _, rfl, ?_, bx.trans (e3.trans e4)⟩
    simp only [List.mem_cons, List.not_mem_nil, or_false] at hx
    rcases hx with rfl | rfl
    · exact vl_t3 (by decide) (.str _ sk_both) vt2 (vl_t1 (by decide) (.str _ sk_any))
    · exact vl_t3 (by decide) (.str _ sk_some) (.int 0) vt2
  · obtain ⟨t, x2, rfl, vt, bx⟩ := hI
    simp only [dSs, dS, dE, dA, dT, dAnds, dOrs, dTAnds, dTOrs, dIfs, dO, dG, dGs, dI, lenGs, sSeq, sIf, sRet, sRetN, sAsg, sDrop, sNext, sPar, sPar3, sBreak, sCont, eVar, eC, eOp, eUn, eChain, eAnd, eOr, eNot, eIte, aNil, aCons, eTup, eLst, eCall, eCB, tVal, tAndM, tOrM, tNotM, eSl, pSome, pNone, eDk0, eDt0, eDkc, gNm, gTp, gNl, gCn, wipeM, List.map_cons, List.map_nil, le_ii, lt_ii, gt_ii, ge_ii, add_ii, sub_ii, iadd_ii, neg_i, len_t, int_i, abs_i, List.getElem?_cons_zero, List.getElem?_cons_succ, List.set_cons_zero, List.set_cons_succ, List.length_cons, List.length_nil, Option.some.injEq, W.bl.injEq, W.int.injEq, W.str.injEq, W.tup.injEq, exists_eq_left', exists_eq_left, ↓reduceIte, Bool.not_true, Bool.not_false, Bool.false_eq_true, if_true, if_false, tb_bop0, tb_bop1, tb_bop2, tb_bop3, tb_bop4, tb_bop5, tb_bop6, tb_aug0, tb_aug1, tb_cop0, tb_cop1, tb_cop2, tb_cop3, tb_cop4, tb_cop5, tb_cop6, tb_cop7, tb_cop8, tb_cop9, tb_cop10, tb_cop11, tb_cop12, tb_ix0, tb_ix1, tb_set0, tb_set1, tb_set2, tb_bc0, tb_bc1, tb_bc2, tb_bc3, tb_bc4, tb_bc5, tb_bc6, tb_bc7, tb_bc8, tb_bc9, tb_bc10, tb_bc11, tb_bc12, tb_bc13, tb_bc14, tb_bc15, tb_bc16, tb_bc17, tb_bc18, tb_lf0, tb_lf1, tb_lf2, tb_lf3, tb_lf4, tb_lf5, tb_lf6, tb_bm0, tb_bm1, tb_bm2, tb_bm3, tb_bm4, tb_it0, tb_it1, tb_it2, tb_it3, tb_it4, tb_spc0, tb_spc1, tb_spc2, lb_bops, lb_augs, lb_cops, lb_ixs, lb_sets, lb_bcs, lb_lfs, lb_bms, lb_its, lb_spcs, lb_cst0, lb_cst1, lb_cst2, lb_cst3, lb_cst4, lb_cst5, lb_cst6, lb_clsA0, lb_clsI0]
    exact Dn.of (hq _ _ ⟨vt, bx⟩)
theorem sp_law_many (hb : BgX p μ) : Gv (Gm c (n + 3) j_law_many) [.ref p] μ (fun x μ' => (∃ axs, x = termsW 16 6 axs ∧ axs.length ≤ 41 ∧ (∀ w ∈ axs, Vl p μ' 58 w ∧ dW w ≤ 6)) ∧ Bx p μ μ') := fun Q E hq => by
  refine ⟨rfl, ?_⟩
  show dSs _ _ t_law_many [some (.ref p), none, none, none, none] μ _ _
  simp only [t_law_many, dSs, dS, dE, dA, dT, dAnds, dOrs, dTAnds, dTOrs, dIfs, dO, dG, dGs, dI, lenGs, sSeq, sIf, sRet, sRetN, sAsg, sDrop, sNext, sPar, sPar3, sBreak, sCont, eVar, eC, eOp, eUn, eChain, eAnd, eOr, eNot, eIte, aNil, aCons, eTup, eLst, eCall, eCB, tVal, tAndM, tOrM, tNotM, eSl, pSome, pNone, eDk0, eDt0, eDkc, gNm, gTp, gNl, gCn, wipeM, List.map_cons, List.map_nil, le_ii, lt_ii, gt_ii, ge_ii, add_ii, sub_ii, iadd_ii, neg_i, len_t, int_i, abs_i, List.getElem?_cons_zero, List.getElem?_cons_succ, List.set_cons_zero, List.set_cons_succ, List.length_cons, List.length_nil, Option.some.injEq, W.bl.injEq, W.int.injEq, W.str.injEq, W.tup.injEq, exists_eq_left', exists_eq_left, ↓reduceIte, Bool.not_true, Bool.not_false, Bool.false_eq_true, if_true, if_false, tb_bop0, tb_bop1, tb_bop2, tb_bop3, tb_bop4, tb_bop5, tb_bop6, tb_aug0, tb_aug1, tb_cop0, tb_cop1, tb_cop2, tb_cop3, tb_cop4, tb_cop5, tb_cop6, tb_cop7, tb_cop8, tb_cop9, tb_cop10, tb_cop11, tb_cop12, tb_ix0, tb_ix1, tb_set0, tb_set1, tb_set2, tb_bc0, tb_bc1, tb_bc2, tb_bc3, tb_bc4, tb_bc5, tb_bc6, tb_bc7, tb_bc8, tb_bc9, tb_bc10, tb_bc11, tb_bc12, tb_bc13, tb_bc14, tb_bc15, tb_bc16, tb_bc17, tb_bc18, tb_lf0, tb_lf1, tb_lf2, tb_lf3, tb_lf4, tb_lf5, tb_lf6, tb_bm0, tb_bm1, tb_bm2, tb_bm3, tb_bm4, tb_it0, tb_it1, tb_it2, tb_it3, tb_it4, tb_spc0, tb_spc1, tb_spc2, lb_bops, lb_augs, lb_cops, lb_ixs, lb_sets, lb_bcs, lb_lfs, lb_bms, lb_its, lb_spcs, lb_cst0, lb_cst1, lb_cst2, lb_cst3, lb_cst4, lb_cst5, lb_cst6, lb_clsA0, lb_clsI0, iFn, sFor, eBM]
  refine ⟨Nat.zero_le _, fun f hf => ?_⟩
  have e0 := Bx.new (o := .lst []) hb hf
  have nf := hb.fresh hf
  refine ⟨by decide, fun a ha => ?_⟩
  have e1 := Bx.new (o := .lst [.int 12, .int 39, .int 40, .int 41]) e0.tp ha
  have nfa : f ≠ a := fun z => by subst z; rw [updM_same] at ha; cases ha
  refine call_gv (sp_law_one updM_same (e0.tp.fresh ha) (by simp) (by simp) e1.tp) fun x μ1 hx => ?_
  obtain ⟨hx, e2⟩ := hx
  have hf1 : μ1 f = some (.lst []) := e2.kp _ _ nf (by rw [updM_ne nfa, updM_same])
  have hm : ∃ m : Nat, x = .int (m : Int) ∧ m ≤ 41 := by
    simp only [List.mem_cons, List.not_mem_nil, or_false] at hx
    rcases hx with rfl | rfl | rfl | rfl
    · exact ⟨12, rfl, by decide⟩
    · exact ⟨39, rfl, by decide⟩
    · exact ⟨40, rfl, by decide⟩
    · exact ⟨41, rfl, by decide⟩
  obtain ⟨m, rfl, m1⟩ := hm
  refine ⟨_, rfl, by omega, by omega, ?_⟩
  rw [Int.toNat_natCast]
  have fr : ∀ a o, a ≠ p → μ a = some o → a ≠ f := fun a o _ e z => by subst z; rw [hf] at e; cases e
  refine loopF_inv (fun i ρ μ' => ∃ x2 x3 x4 axs, ρ = [some (.ref p), some (.ref f), x2, x3, x4] ∧ μ' f = some (.lst axs) ∧ axs.length = i ∧ (∀ w ∈ axs, Vl p μ' 58 w ∧ dW w ≤ 6) ∧ Bx p μ μ') (rangeW 0 m) 0 _ _ (fun i w ρ μ' N hi hI hN => ?_) (fun ρ μ' hI => ?_) ⟨_, _, _, [], rfl, hf1, rfl, by simp, e0.trans (e1.trans e2)⟩
  · obtain ⟨x2, x3, x4, axs, rfl, h1, h2, h3, bx⟩ := hI
    have il := (List.getElem?_eq_some_iff.mp hi).1
    rw [rng_len] at il
    obtain ⟨i', hi', rfl⟩ := rng_mem (List.mem_of_getElem? hi)
    simp only [dSs, dS, dE, dA, dT, dAnds, dOrs, dTAnds, dTOrs, dIfs, dO, dG, dGs, dI, lenGs, sSeq, sIf, sRet, sRetN, sAsg, sDrop, sNext, sPar, sPar3, sBreak, sCont, eVar, eC, eOp, eUn, eChain, eAnd, eOr, eNot, eIte, aNil, aCons, eTup, eLst, eCall, eCB, tVal, tAndM, tOrM, tNotM, eSl, pSome, pNone, eDk0, eDt0, eDkc, gNm, gTp, gNl, gCn, wipeM, List.map_cons, List.map_nil, le_ii, lt_ii, gt_ii, ge_ii, add_ii, sub_ii, iadd_ii, neg_i, len_t, int_i, abs_i, List.getElem?_cons_zero, List.getElem?_cons_succ, List.set_cons_zero, List.set_cons_succ, List.length_cons, List.length_nil, Option.some.injEq, W.bl.injEq, W.int.injEq, W.str.injEq, W.tup.injEq, exists_eq_left', exists_eq_left, ↓reduceIte, Bool.not_true, Bool.not_false, Bool.false_eq_true, if_true, if_false, tb_bop0, tb_bop1, tb_bop2, tb_bop3, tb_bop4, tb_bop5, tb_bop6, tb_aug0, tb_aug1, tb_cop0, tb_cop1, tb_cop2, tb_cop3, tb_cop4, tb_cop5, tb_cop6, tb_cop7, tb_cop8, tb_cop9, tb_cop10, tb_cop11, tb_cop12, tb_ix0, tb_ix1, tb_set0, tb_set1, tb_set2, tb_bc0, tb_bc1, tb_bc2, tb_bc3, tb_bc4, tb_bc5, tb_bc6, tb_bc7, tb_bc8, tb_bc9, tb_bc10, tb_bc11, tb_bc12, tb_bc13, tb_bc14, tb_bc15, tb_bc16, tb_bc17, tb_bc18, tb_lf0, tb_lf1, tb_lf2, tb_lf3, tb_lf4, tb_lf5, tb_lf6, tb_bm0, tb_bm1, tb_bm2, tb_bm3, tb_bm4, tb_it0, tb_it1, tb_it2, tb_it3, tb_it4, tb_spc0, tb_spc1, tb_spc2, lb_bops, lb_augs, lb_cops, lb_ixs, lb_sets, lb_bcs, lb_lfs, lb_bms, lb_its, lb_spcs, lb_cst0, lb_cst1, lb_cst2, lb_cst3, lb_cst4, lb_cst5, lb_cst6, lb_clsA0, lb_clsI0, iFn, sFor, eBM]
    refine call_gv (sp_law_draw (by decide) (by decide) bx.tp) fun x μ2 hx => ?_
    obtain ⟨⟨kd, rfl, _, _⟩, b2⟩ := hx
    refine ⟨by decide, by decide, fun q hq' => ?_⟩
    have e3 := Bx.new (o := .lst [.int 1, .int 3, .int 4]) b2.tp hq'
    refine call_gv (sp_law_one updM_same (b2.tp.fresh hq') (by simp) (by simp) e3.tp) fun x μ3 hx => ?_
    obtain ⟨hx, e4⟩ := hx
    have hj : ∃ j : Nat, x = .int (j : Int) ∧ j ≤ 4 := by
      simp only [List.mem_cons, List.not_mem_nil, or_false] at hx
      rcases hx with rfl | rfl | rfl
      · exact ⟨1, rfl, by decide⟩
      · exact ⟨3, rfl, by decide⟩
      · exact ⟨4, rfl, by decide⟩
    obtain ⟨jm, rfl, jm4⟩ := hj
    refine ⟨_, rfl, by omega, by omega, ?_⟩
    rw [Int.toNat_natCast]
    have b14 := b2.trans (e3.trans e4)
    have h14 := b14.kp _ _ nf h1
    refine loopF_inv (fun j ρ μ4 => ∃ t x4, ρ = [some (.ref p), some (.ref f), some (.int (i' : Int)), some t, x4] ∧ μ4 = μ3 ∧ Vl p μ3 58 t ∧ dW t ≤ 1 + j) (rangeW 0 jm) 0 _ _ (fun j w ρ μ4 N2 hj hI hN2 => ?_) (fun ρ μ4 hI => ?_) ⟨_, _, rfl, rfl, vl_t2 (by decide) (.str _ sk_kind) (.int _), by show 0 + 1 ≤ 1 + 0; omega⟩
    · obtain ⟨t, x4, rfl, rfl, vt, dt⟩ := hI
      obtain ⟨j', _, rfl⟩ := rng_mem (List.mem_of_getElem? hj)
      simp only [dSs, dS, dE, dA, dT, dAnds, dOrs, dTAnds, dTOrs, dIfs, dO, dG, dGs, dI, lenGs, sSeq, sIf, sRet, sRetN, sAsg, sDrop, sNext, sPar, sPar3, sBreak, sCont, eVar, eC, eOp, eUn, eChain, eAnd, eOr, eNot, eIte, aNil, aCons, eTup, eLst, eCall, eCB, tVal, tAndM, tOrM, tNotM, eSl, pSome, pNone, eDk0, eDt0, eDkc, gNm, gTp, gNl, gCn, wipeM, List.map_cons, List.map_nil, le_ii, lt_ii, gt_ii, ge_ii, add_ii, sub_ii, iadd_ii, neg_i, len_t, int_i, abs_i, List.getElem?_cons_zero, List.getElem?_cons_succ, List.set_cons_zero, List.set_cons_succ, List.length_cons, List.length_nil, Option.some.injEq, W.bl.injEq, W.int.injEq, W.str.injEq, W.tup.injEq, exists_eq_left', exists_eq_left, ↓reduceIte, Bool.not_true, Bool.not_false, Bool.false_eq_true, if_true, if_false, tb_bop0, tb_bop1, tb_bop2, tb_bop3, tb_bop4, tb_bop5, tb_bop6, tb_aug0, tb_aug1, tb_cop0, tb_cop1, tb_cop2, tb_cop3, tb_cop4, tb_cop5, tb_cop6, tb_cop7, tb_cop8, tb_cop9, tb_cop10, tb_cop11, tb_cop12, tb_ix0, tb_ix1, tb_set0, tb_set1, tb_set2, tb_bc0, tb_bc1, tb_bc2, tb_bc3, tb_bc4, tb_bc5, tb_bc6, tb_bc7, tb_bc8, tb_bc9, tb_bc10, tb_bc11, tb_bc12, tb_bc13, tb_bc14, tb_bc15, tb_bc16, tb_bc17, tb_bc18, tb_lf0, tb_lf1, tb_lf2, tb_lf3, tb_lf4, tb_lf5, tb_lf6, tb_bm0, tb_bm1, tb_bm2, tb_bm3, tb_bm4, tb_it0, tb_it1, tb_it2, tb_it3, tb_it4, tb_spc0, tb_spc1, tb_spc2, lb_bops, lb_augs, lb_cops, lb_ixs, lb_sets, lb_bcs, lb_lfs, lb_bms, lb_its, lb_spcs, lb_cst0, lb_cst1, lb_cst2, lb_cst3, lb_cst4, lb_cst5, lb_cst6, lb_clsA0, lb_clsI0]
      refine o_divp (by decide) (by decide) (o_mul_r (by decide) (by decide) (o_addi ⟨by decide, by decide, hN2 _ _ ⟨_, _, rfl, rfl, vl_t3 (by decide) (.str _ sk_both) vt (vl_t2 (by decide) (.str _ sk_kind) (.int _)), ?_⟩⟩))
      show max 0 (max (dW t) (max (0 + 1) 0)) + 1 ≤ 1 + (0 + j + 1)
      omega
    · obtain ⟨t, x4, rfl, rfl, vt, dt⟩ := hI
      rw [Nat.zero_add, rng_len] at dt
      simp only [dSs, dS, dE, dA, dT, dAnds, dOrs, dTAnds, dTOrs, dIfs, dO, dG, dGs, dI, lenGs, sSeq, sIf, sRet, sRetN, sAsg, sDrop, sNext, sPar, sPar3, sBreak, sCont, eVar, eC, eOp, eUn, eChain, eAnd, eOr, eNot, eIte, aNil, aCons, eTup, eLst, eCall, eCB, tVal, tAndM, tOrM, tNotM, eSl, pSome, pNone, eDk0, eDt0, eDkc, gNm, gTp, gNl, gCn, wipeM, List.map_cons, List.map_nil, le_ii, lt_ii, gt_ii, ge_ii, add_ii, sub_ii, iadd_ii, neg_i, len_t, int_i, abs_i, List.getElem?_cons_zero, List.getElem?_cons_succ, List.set_cons_zero, List.set_cons_succ, List.length_cons, List.length_nil, Option.some.injEq, W.bl.injEq, W.int.injEq, W.str.injEq, W.tup.injEq, exists_eq_left', exists_eq_left, ↓reduceIte, Bool.not_true, Bool.not_false, Bool.false_eq_true, if_true, if_false, tb_bop0, tb_bop1, tb_bop2, tb_bop3, tb_bop4, tb_bop5, tb_bop6, tb_aug0, tb_aug1, tb_cop0, tb_cop1, tb_cop2, tb_cop3, tb_cop4, tb_cop5, tb_cop6, tb_cop7, tb_cop8, tb_cop9, tb_cop10, tb_cop11, tb_cop12, tb_ix0, tb_ix1, tb_set0, tb_set1, tb_set2, tb_bc0, tb_bc1, tb_bc2, tb_bc3, tb_bc4, tb_bc5, tb_bc6, tb_bc7, tb_bc8, tb_bc9, tb_bc10, tb_bc11, tb_bc12, tb_bc13, tb_bc14, tb_bc15, tb_bc16, tb_bc17, tb_bc18, tb_lf0, tb_lf1, tb_lf2, tb_lf3, tb_lf4, tb_lf5, tb_lf6, tb_bm0, tb_bm1, tb_bm2, tb_bm3, tb_bm4, tb_it0, tb_it1, tb_it2, tb_it3, tb_it4, tb_spc0, tb_spc1, tb_spc2, lb_bops, lb_augs, lb_cops, lb_ixs, lb_sets, lb_bcs, lb_lfs, lb_bms, lb_its, lb_spcs, lb_cst0, lb_cst1, lb_cst2, lb_cst3, lb_cst4, lb_cst5, lb_cst6, lb_clsA0, lb_clsI0, eBM]
      refine ⟨.inl ⟨rfl, _, .inl h14⟩, o_divp (by decide) (by decide) (o_divp (by decide) (by decide) (o_mul_r (by decide) (by decide) (o_subi ⟨by decide, by decide, by decide, axs, h14, Nat.lt_of_le_of_lt (by omega : _ ≤ 100) (by decide), hN _ _ ⟨_, _, _, _, rfl, updM_same, by rw [List.length_append, List.length_singleton]; omega, fun w hw => ?_, ?_⟩⟩)))⟩
      · have kf : ∀ u, Vl p μ4 58 u → ∀ (l : List W), Vl p (updM μ4 f (.lst l)) 58 u := fun u hu l => hu.imp (fun a xs _ e => by
          by_cases hz : a = f
          · subst hz; exact ⟨_, updM_same⟩
          · exact ⟨xs, by rw [updM_ne hz]; exact e⟩) (Nat.le_refl _)
        rcases List.mem_append.mp hw with h | h
        · exact ⟨kf _ ((h3 w h).1.bx b14) _, (h3 w h).2⟩
        · rw [List.mem_singleton.mp h]
          refine ⟨kf _ (vl_t3 (by decide) (.str _ sk_is) (vl_t3 (by decide) (.str _ sk_some) (.int _) (vl_t2 (by decide) (.str _ sk_kind) (.int _))) vt) _, ?_⟩
          show max 0 (max (max 0 (max 0 (max (0 + 1) 0)) + 1) (max (dW t) 0)) + 1 ≤ 6
          omega
      · exact ⟨(bx.trans b14).tp.other nf, fun a o n1 e => by rw [updM_ne (fr a o n1 e)]; exact (bx.trans b14).kp a o n1 e⟩
  · obtain ⟨x2, x3, x4, axs, rfl, h1, h2, h3, bx⟩ := hI
    rw [Nat.zero_add, rng_len] at h2
    simp only [dSs, dS, dE, dA, dT, dAnds, dOrs, dTAnds, dTOrs, dIfs, dO, dG, dGs, dI, lenGs, sSeq, sIf, sRet, sRetN, sAsg, sDrop, sNext, sPar, sPar3, sBreak, sCont, eVar, eC, eOp, eUn, eChain, eAnd, eOr, eNot, eIte, aNil, aCons, eTup, eLst, eCall, eCB, tVal, tAndM, tOrM, tNotM, eSl, pSome, pNone, eDk0, eDt0, eDkc, gNm, gTp, gNl, gCn, wipeM, List.map_cons, List.map_nil, le_ii, lt_ii, gt_ii, ge_ii, add_ii, sub_ii, iadd_ii, neg_i, len_t, int_i, abs_i, List.getElem?_cons_zero, List.getElem?_cons_succ, List.set_cons_zero, List.set_cons_succ, List.length_cons, List.length_nil, Option.some.injEq, W.bl.injEq, W.int.injEq, W.str.injEq, W.tup.injEq, exists_eq_left', exists_eq_left, ↓reduceIte, Bool.not_true, Bool.not_false, Bool.false_eq_true, if_true, if_false, tb_bop0, tb_bop1, tb_bop2, tb_bop3, tb_bop4, tb_bop5, tb_bop6, tb_aug0, tb_aug1, tb_cop0, tb_cop1, tb_cop2, tb_cop3, tb_cop4, tb_cop5, tb_cop6, tb_cop7, tb_cop8, tb_cop9, tb_cop10, tb_cop11, tb_cop12, tb_ix0, tb_ix1, tb_set0, tb_set1, tb_set2, tb_bc0, tb_bc1, tb_bc2, tb_bc3, tb_bc4, tb_bc5, tb_bc6, tb_bc7, tb_bc8, tb_bc9, tb_bc10, tb_bc11, tb_bc12, tb_bc13, tb_bc14, tb_bc15, tb_bc16, tb_bc17, tb_bc18, tb_lf0, tb_lf1, tb_lf2, tb_lf3, tb_lf4, tb_lf5, tb_lf6, tb_bm0, tb_bm1, tb_bm2, tb_bm3, tb_bm4, tb_it0, tb_it1, tb_it2, tb_it3, tb_it4, tb_spc0, tb_spc1, tb_spc2, lb_bops, lb_augs, lb_cops, lb_ixs, lb_sets, lb_bcs, lb_lfs, lb_bms, lb_its, lb_spcs, lb_cst0, lb_cst1, lb_cst2, lb_cst3, lb_cst4, lb_cst5, lb_cst6, lb_clsA0, lb_clsI0]
    exact tup_l h1 ⟨by decide, Dn.of (hq _ _ ⟨⟨axs, rfl, by omega, h3⟩, bx⟩)⟩
end
end K01
set_option Elab.async false
set_option autoImplicit false
set_option linter.all false
set_option maxRecDepth 100000
namespace K01
open PySem PySem.Spec PyProof.Rows L2 MP
def oddL (a : Addr) : List W := [.int 0, .int 1, .int (-1), .int 6, .int 16, .int 17, .bl true, .non, .str "x", .tup [], .tup [.str "any"], .tup [.str "kind", .int 0], .tup [.str "some", .int 0], .tup [.str "is", .tup [.str "any"], .tup [.str "any"]], .str "world", .ref a]
def OddM (od : Addr) (μ : Mem) : Prop := ∃ a, μ od = some (.lst (oddL a)) ∧ μ a = some (.lst [.int 0])
section
variable {p od : Addr} {μ μ' : Mem}
theorem OddM.bx (ho : OddM od μ) (hb : BgX p μ) (b : Bx p μ μ') : OddM od μ' := by
  obtain ⟨a, h1, h2⟩ := ho
  obtain ⟨i, j, k, l, h3⟩ := hb
  refine ⟨a, b.kp _ _ (fun z => ?_) h1, b.kp _ _ (fun z => ?_) h2⟩
  · subst z
    rw [h1] at h3
    cases h3
  · subst z
    rw [h2] at h3
    cases h3
theorem odd_ok (ho : OddM od μ) (hb : BgX p μ) : ∃ a, μ od = some (.lst (oddL a)) ∧ ∀ w ∈ oddL a, Vl p μ 3 w ∧ dW w ≤ 2 := by
  obtain ⟨a, h1, h2⟩ := ho
  obtain ⟨i, j, k, l, h3⟩ := hb
  have na : a ≠ p := fun z => by
    subst z
    rw [h2] at h3
    cases h3
  have vA : Vl p μ 3 (.tup [.str "any"]) := vl_t1 (by decide) (.str _ sk_any)
  refine ⟨a, h1, fun w hw => ?_⟩
  simp only [oddL, List.mem_cons, List.not_mem_nil, or_false] at hw
  rcases hw with rfl | rfl | rfl | rfl | rfl | rfl | rfl | rfl | rfl | rfl | rfl | rfl | rfl | rfl | rfl | rfl
  · exact ⟨.int _, by decide⟩
  · exact ⟨.int _, by decide⟩
  · exact ⟨.int _, by decide⟩
  · exact ⟨.int _, by decide⟩
  · exact ⟨.int _, by decide⟩
  · exact ⟨.int _, by decide⟩
  · exact ⟨.bl _, by decide⟩
  · exact ⟨.non, by decide⟩
  · exact ⟨.str _ (by decide +kernel), by decide⟩
  · exact ⟨.tup _ (by simp) (by decide), by decide⟩
  · exact ⟨vA, by decide⟩
  · exact ⟨vl_t2 (by decide) (.str _ sk_kind) (.int _), by decide⟩
  · exact ⟨vl_t2 (by decide) (.str _ sk_some) (.int _), by decide⟩
  · exact ⟨vl_t3 (by decide) (.str _ sk_is) vA vA, by decide⟩
  · exact ⟨.str _ sk_world, by decide⟩
  · exact ⟨.lst a _ na h2, Nat.zero_le _⟩
theorem odd_ix (hb : BgX p μ) (ho : OddM od μ) {i : Int} (h0 : 0 ≤ i) (hi : i < 16) {Q : MQ} (h : ∀ w, Vl p μ 3 w → dW w ≤ 2 → Q w μ) : oIx (.ref od) (.int i) μ Q := by
  obtain ⟨i, rfl⟩ := Int.eq_ofNat_of_zero_le h0
  obtain ⟨a, h1, h2⟩ := odd_ok ho hb
  have hl : i < (oddL a).length := by
    show i < 16
    omega
  exact ix_lst h1 hl (h _ (h2 _ (List.getElem_mem hl)).1 (h2 _ (List.getElem_mem hl)).2)
theorem spoil {c : List Addr} {n l L : Nat} {v : W} {QQ : MQ} {E : MXK} (hn : l + 3 ≤ n) (hL : 3 ≤ L) (hL2 : L ≤ 1000) (hb : BgX p μ) (ho : OddM od μ) (hv : Vl p μ L v)
    (h : ∀ x μ', Vl p μ' (L + 1) x → dW x ≤ max (dW v) (l + 2) → Bx p μ μ' → QQ x μ') :
    callM (Gm c n j_law_draw) [.ref p, .int 16] μ (fun x μ1 => oIx (.ref od) x μ1 fun y μ2 => callM (Gm c n j_law_spoilt) [.ref p, v, y, .int l] μ2 QQ E) E := by
  obtain ⟨n, rfl⟩ : ∃ j, n = j + 2 := ⟨n - 2, by omega⟩
  refine call_gv (sp_law_draw (by decide) (by decide) hb) fun x μ1 hx => ?_
  obtain ⟨⟨i, rfl, i0, i1⟩, b1⟩ := hx
  refine odd_ix b1.tp (ho.bx hb b1) i0 i1 fun w vw dw => ?_
  refine call_gv (sp_law_spoilt hL2 dw l _ v μ1 hn b1.tp (hv.bx b1) (vw.le hL)) fun x μ2 hx => ?_
  exact h _ _ hx.1.1 hx.1.2 (b1.trans hx.2)
end
def tb : XSs := forS (dropS 1 t_law)
abbrev tb4 : XSs := dropS 4 tb
abbrev tb5 : XSs := dropS 5 tb
abbrev tb6 : XSs := dropS 6 tb
section
variable {c : List Addr} {n : Nat} {DD : MEnds} {E : MXS} {od : Addr}
abbrev tb2 : XSs := dropS 2 tb
/-- the bag and the terminology -/
theorem turnA1 {ns : List Int} {j : Nat} {x3 x4 x5 x6 x7 x8 x9 x10 x11 : Option W} {μ : Mem} (hn : 95 ≤ n) (ho : OddM od μ)
    (hN : ∀ p k r axs μ', 1 ≤ k → k ≤ 16 → 0 ≤ r → r ≤ 6 → Vl p μ' 58 (termsW k r axs) → dW (termsW k r axs) ≤ 8 → BgX p μ' → OddM od μ' → dSs (libA c) (Gam (libA c) D n) tb2 [some (.rl (ns.map W.int)), some (.ref od), some (.int (j : Int)), some (.ref p), some (termsW k r axs), x5, x6, x7, x8, x9, x10, x11] μ' DD E) :
    dSs (libA c) (Gam (libA c) D n) tb [some (.rl (ns.map W.int)), some (.ref od), some (.int (j : Int)), x3, x4, x5, x6, x7, x8, x9, x10, x11] μ DD E := by
  obtain ⟨n, rfl⟩ : ∃ j, n = j + 3 := ⟨n - 3, by omega⟩
  have e0 : tb = .cons (headS tb) (.cons (headS (dropS 1 tb)) tb2) := rfl
  have e1 : ∀ s, dSs (libA c) (Gam (libA c) D (n + 3)) (.cons s tb2) = sSeq (dS (libA c) (Gam (libA c) D (n + 3)) s) (dSs (libA c) (Gam (libA c) D (n + 3)) tb2) := fun s => rfl
  rw [e0]
  simp only [dSs, e1, headS, dropS, tb, forS, t_law, dSs, dS, dE, dA, dT, dAnds, dOrs, dTAnds, dTOrs, dIfs, dO, dG, dGs, dI, lenGs, sSeq, sIf, sRet, sRetN, sAsg, sDrop, sNext, sPar, sPar3, sBreak, sCont, eVar, eC, eOp, eUn, eChain, eAnd, eOr, eNot, eIte, aNil, aCons, eTup, eLst, eCall, eCB, tVal, tAndM, tOrM, tNotM, eSl, pSome, pNone, eDk0, eDt0, eDkc, gNm, gTp, gNl, gCn, wipeM, List.map_cons, List.map_nil, le_ii, lt_ii, gt_ii, ge_ii, add_ii, sub_ii, iadd_ii, neg_i, len_t, int_i, abs_i, List.getElem?_cons_zero, List.getElem?_cons_succ, List.set_cons_zero, List.set_cons_succ, List.length_cons, List.length_nil, Option.some.injEq, W.bl.injEq, W.int.injEq, W.str.injEq, W.tup.injEq, exists_eq_left', exists_eq_left, ↓reduceIte, Bool.not_true, Bool.not_false, Bool.false_eq_true, if_true, if_false, tb_bop0, tb_bop1, tb_bop2, tb_bop3, tb_bop4, tb_bop5, tb_bop6, tb_aug0, tb_aug1, tb_cop0, tb_cop1, tb_cop2, tb_cop3, tb_cop4, tb_cop5, tb_cop6, tb_cop7, tb_cop8, tb_cop9, tb_cop10, tb_cop11, tb_cop12, tb_ix0, tb_ix1, tb_set0, tb_set1, tb_set2, tb_bc0, tb_bc1, tb_bc2, tb_bc3, tb_bc4, tb_bc5, tb_bc6, tb_bc7, tb_bc8, tb_bc9, tb_bc10, tb_bc11, tb_bc12, tb_bc13, tb_bc14, tb_bc15, tb_bc16, tb_bc17, tb_bc18, tb_lf0, tb_lf1, tb_lf2, tb_lf3, tb_lf4, tb_lf5, tb_lf6, tb_bm0, tb_bm1, tb_bm2, tb_bm3, tb_bm4, tb_it0, tb_it1, tb_it2, tb_it3, tb_it4, tb_spc0, tb_spc1, tb_spc2, lb_bops, lb_augs, lb_cops, lb_ixs, lb_sets, lb_bcs, lb_lfs, lb_bms, lb_its, lb_spcs, lb_cst0, lb_cst1, lb_cst2, lb_cst3, lb_cst4, lb_cst5, lb_cst6, lb_clsA0, lb_clsI0]
  refine call_gv sp_law_bag fun x μ1 hx => ?_
  obtain ⟨p, rfl, b1, f1, s1⟩ := hx
  have ho1 : OddM od μ1 := by
    obtain ⟨a, h1, h2⟩ := ho
    exact ⟨a, s1 _ _ h1, s1 _ _ h2⟩
  refine call_gv (sp_law_draw (by decide) (by decide) b1) fun x μ2 hx => ?_
  obtain ⟨⟨d, rfl, d0, d1⟩, b2⟩ := hx
  refine o_gti ⟨_, rfl, ?_⟩
  split
  · refine call_gv (sp_law_terms (by omega) b2.tp) fun x μ3 hx => ?_
    obtain ⟨⟨k, r, xs, rfl, k1, k2, r1, r2, hF⟩, b3⟩ := hx
    have hl := hF.len
    refine hN p k r _ μ3 k1 (by omega) r1 (by omega) (vl_terms (by decide) (by rw [List.length_map]; omega) fun w hw => ?_) (Nat.le_trans (dw_terms (B := 5) fun w hw => ?_) (by decide)) b3.tp (ho1.bx b1 (b2.trans b3))
    · obtain ⟨x, _, rfl⟩ := List.mem_map.mp hw
      exact vl_A (by decide) x
    · obtain ⟨x, hx, rfl⟩ := List.mem_map.mp hw
      exact dw_A x (hF.wf x hx)
  · refine call_gv (sp_law_many b2.tp) fun x μ3 hx => ?_
    obtain ⟨⟨axs, rfl, hl, h⟩, b3⟩ := hx
    exact hN p 16 6 axs μ3 (by decide) (by decide) (by decide) (by decide) (vl_terms (by decide) (by omega) fun w hw => (h w hw).1) (dw_terms (B := 6) fun w hw => (h w hw).2) b3.tp (ho1.bx b1 (b2.trans b3))
/-- the world and the term -/
theorem turnA2 {x0 x2 x5 x6 x7 x8 x9 x10 x11 : Option W} {p : Addr} {k r : Int} {axs : List W} {μ : Mem} (hn : 95 ≤ n) (k1 : 1 ≤ k) (k2 : k ≤ 16) (r1 : 0 ≤ r) (r2 : r ≤ 6) (hb : BgX p μ)
    (hN : ∀ v u μ', Vl p μ' 18 v → Vl p μ' 58 u → Bx p μ μ' → dSs (libA c) (Gam (libA c) D n) tb4 [x0, some (.ref od), x2, some (.ref p), some (termsW k r axs), some v, some u, x7, x8, x9, x10, x11] μ' DD E) :
    dSs (libA c) (Gam (libA c) D n) tb2 [x0, some (.ref od), x2, some (.ref p), some (termsW k r axs), x5, x6, x7, x8, x9, x10, x11] μ DD E := by
  obtain ⟨n, rfl⟩ : ∃ j, n = j + 3 := ⟨n - 3, by omega⟩
  have e0 : tb2 = .cons (headS tb2) (.cons (headS (dropS 1 tb2)) tb4) := rfl
  have e1 : ∀ s, dSs (libA c) (Gam (libA c) D (n + 3)) (.cons s tb4) = sSeq (dS (libA c) (Gam (libA c) D (n + 3)) s) (dSs (libA c) (Gam (libA c) D (n + 3)) tb4) := fun s => rfl
  rw [e0]
  simp only [dSs, e1, headS, dropS, tb2, tb, forS, t_law, dSs, dS, dE, dA, dT, dAnds, dOrs, dTAnds, dTOrs, dIfs, dO, dG, dGs, dI, lenGs, sSeq, sIf, sRet, sRetN, sAsg, sDrop, sNext, sPar, sPar3, sBreak, sCont, eVar, eC, eOp, eUn, eChain, eAnd, eOr, eNot, eIte, aNil, aCons, eTup, eLst, eCall, eCB, tVal, tAndM, tOrM, tNotM, eSl, pSome, pNone, eDk0, eDt0, eDkc, gNm, gTp, gNl, gCn, wipeM, List.map_cons, List.map_nil, le_ii, lt_ii, gt_ii, ge_ii, add_ii, sub_ii, iadd_ii, neg_i, len_t, int_i, abs_i, List.getElem?_cons_zero, List.getElem?_cons_succ, List.set_cons_zero, List.set_cons_succ, List.length_cons, List.length_nil, Option.some.injEq, W.bl.injEq, W.int.injEq, W.str.injEq, W.tup.injEq, exists_eq_left', exists_eq_left, ↓reduceIte, Bool.not_true, Bool.not_false, Bool.false_eq_true, if_true, if_false, tb_bop0, tb_bop1, tb_bop2, tb_bop3, tb_bop4, tb_bop5, tb_bop6, tb_aug0, tb_aug1, tb_cop0, tb_cop1, tb_cop2, tb_cop3, tb_cop4, tb_cop5, tb_cop6, tb_cop7, tb_cop8, tb_cop9, tb_cop10, tb_cop11, tb_cop12, tb_ix0, tb_ix1, tb_set0, tb_set1, tb_set2, tb_bc0, tb_bc1, tb_bc2, tb_bc3, tb_bc4, tb_bc5, tb_bc6, tb_bc7, tb_bc8, tb_bc9, tb_bc10, tb_bc11, tb_bc12, tb_bc13, tb_bc14, tb_bc15, tb_bc16, tb_bc17, tb_bc18, tb_lf0, tb_lf1, tb_lf2, tb_lf3, tb_lf4, tb_lf5, tb_lf6, tb_bm0, tb_bm1, tb_bm2, tb_bm3, tb_bm4, tb_it0, tb_it1, tb_it2, tb_it3, tb_it4, tb_spc0, tb_spc1, tb_spc2, lb_bops, lb_augs, lb_cops, lb_ixs, lb_sets, lb_bcs, lb_lfs, lb_bms, lb_its, lb_spcs, lb_cst0, lb_cst1, lb_cst2, lb_cst3, lb_cst4, lb_cst5, lb_cst6, lb_clsA0, lb_clsI0]
  refine ix_t (i := 1) rfl (ix_t (i := 2) rfl ⟨by decide, by decide, call_gv (sp_law_world (k := k) (r := r) (axs := []) (by omega) (by omega) r1 (by omega) (by omega) hb) fun x μ1 hx => ?_⟩)
  obtain ⟨⟨w, rfl, hw, sw⟩, b1⟩ := hx
  have vw : ∀ μ', Vl p μ' 18 (worldW w) := fun μ' => vl_world k2 r2 hw sw
  refine call_gv (sp_law_draw (by decide) (by decide) b1.tp) fun x μ2 hx => ?_
  obtain ⟨⟨d, rfl, d0, d1⟩, b2⟩ := hx
  refine o_gti ⟨_, rfl, ?_⟩
  split
  · refine ix_t (i := 1) rfl (ix_t (i := 2) rfl (call_gv (sp_law_term (by omega) (by omega) r1 (by omega) 3 (n + 3) μ2 (by omega) b2.tp) fun x μ3 hx => ?_))
    obtain ⟨⟨t, rfl, _⟩, b3⟩ := hx
    exact hN _ _ μ3 (vw _) (vl_T (by decide) t) (b1.trans (b2.trans b3))
  · refine call_gv (sp_law_tall b2.tp) fun x μ3 hx => ?_
    exact hN _ _ μ3 (vw _) hx.1 (b1.trans (b2.trans hx.2))
/-- the terminology is spoilt -/
theorem turnB {x0 x2 x7 x8 x9 x10 x11 : Option W} {p : Addr} {t v u : W} {μ : Mem} (hn : 95 ≤ n) (hb : BgX p μ) (ho : OddM od μ) (ht : Vl p μ 58 t) (dt : dW t ≤ 8)
    (hN : ∀ t x7 μ', Tv p μ' t → Bx p μ μ' → dSs (libA c) (Gam (libA c) D n) tb5 [x0, some (.ref od), x2, some (.ref p), some t, some v, some u, x7, x8, x9, x10, x11] μ' DD E) :
    dSs (libA c) (Gam (libA c) D n) tb4 [x0, some (.ref od), x2, some (.ref p), some t, some v, some u, x7, x8, x9, x10, x11] μ DD E := by
  obtain ⟨n, rfl⟩ : ∃ j, n = j + 3 := ⟨n - 3, by omega⟩
  have e0 : tb4 = .cons (headS tb4) tb5 := rfl
  have e1 : ∀ s, dSs (libA c) (Gam (libA c) D (n + 3)) (.cons s tb5) = sSeq (dS (libA c) (Gam (libA c) D (n + 3)) s) (dSs (libA c) (Gam (libA c) D (n + 3)) tb5) := fun s => rfl
  rw [e0]
  simp only [dSs, e1, headS, dropS, tb4, tb, forS, t_law, dSs, dS, dE, dA, dT, dAnds, dOrs, dTAnds, dTOrs, dIfs, dO, dG, dGs, dI, lenGs, sSeq, sIf, sRet, sRetN, sAsg, sDrop, sNext, sPar, sPar3, sBreak, sCont, eVar, eC, eOp, eUn, eChain, eAnd, eOr, eNot, eIte, aNil, aCons, eTup, eLst, eCall, eCB, tVal, tAndM, tOrM, tNotM, eSl, pSome, pNone, eDk0, eDt0, eDkc, gNm, gTp, gNl, gCn, wipeM, List.map_cons, List.map_nil, le_ii, lt_ii, gt_ii, ge_ii, add_ii, sub_ii, iadd_ii, neg_i, len_t, int_i, abs_i, List.getElem?_cons_zero, List.getElem?_cons_succ, List.set_cons_zero, List.set_cons_succ, List.length_cons, List.length_nil, Option.some.injEq, W.bl.injEq, W.int.injEq, W.str.injEq, W.tup.injEq, exists_eq_left', exists_eq_left, ↓reduceIte, Bool.not_true, Bool.not_false, Bool.false_eq_true, if_true, if_false, tb_bop0, tb_bop1, tb_bop2, tb_bop3, tb_bop4, tb_bop5, tb_bop6, tb_aug0, tb_aug1, tb_cop0, tb_cop1, tb_cop2, tb_cop3, tb_cop4, tb_cop5, tb_cop6, tb_cop7, tb_cop8, tb_cop9, tb_cop10, tb_cop11, tb_cop12, tb_ix0, tb_ix1, tb_set0, tb_set1, tb_set2, tb_bc0, tb_bc1, tb_bc2, tb_bc3, tb_bc4, tb_bc5, tb_bc6, tb_bc7, tb_bc8, tb_bc9, tb_bc10, tb_bc11, tb_bc12, tb_bc13, tb_bc14, tb_bc15, tb_bc16, tb_bc17, tb_bc18, tb_lf0, tb_lf1, tb_lf2, tb_lf3, tb_lf4, tb_lf5, tb_lf6, tb_bm0, tb_bm1, tb_bm2, tb_bm3, tb_bm4, tb_it0, tb_it1, tb_it2, tb_it3, tb_it4, tb_spc0, tb_spc1, tb_spc2, lb_bops, lb_augs, lb_cops, lb_ixs, lb_sets, lb_bcs, lb_lfs, lb_bms, lb_its, lb_spcs, lb_cst0, lb_cst1, lb_cst2, lb_cst3, lb_cst4, lb_cst5, lb_cst6, lb_clsA0, lb_clsI0, sFor, iFn]
  refine call_gv (sp_law_draw (by decide) (by decide) hb) fun x μ1 hx => ?_
  obtain ⟨⟨d, rfl, d0, d1⟩, b1⟩ := hx
  refine ⟨d, rfl, by omega, by omega, ?_⟩
  have hlen : (rangeW 0 d.toNat).length ≤ 2 := by rw [rng_len]; omega
  refine loopF_inv (fun i ρ μ' => ∃ t x7, ρ = [x0, some (.ref od), x2, some (.ref p), some t, some v, some u, x7, x8, x9, x10, x11] ∧ Vl p μ' (58 + i) t ∧ dW t ≤ 8 ∧ Bx p μ μ') (rangeW 0 d.toNat) 0 _ _ (fun i w ρ μ' N hi hI hN2 => ?_) (fun ρ μ' hI => ?_) ⟨_, _, rfl, ht.bx b1, dt, b1⟩
  · obtain ⟨t, x7, rfl, vt, dt, bx⟩ := hI
    have il := (List.getElem?_eq_some_iff.mp hi).1
    simp only [dSs, dS, dE, dA, dT, dAnds, dOrs, dTAnds, dTOrs, dIfs, dO, dG, dGs, dI, lenGs, sSeq, sIf, sRet, sRetN, sAsg, sDrop, sNext, sPar, sPar3, sBreak, sCont, eVar, eC, eOp, eUn, eChain, eAnd, eOr, eNot, eIte, aNil, aCons, eTup, eLst, eCall, eCB, tVal, tAndM, tOrM, tNotM, eSl, pSome, pNone, eDk0, eDt0, eDkc, gNm, gTp, gNl, gCn, wipeM, List.map_cons, List.map_nil, le_ii, lt_ii, gt_ii, ge_ii, add_ii, sub_ii, iadd_ii, neg_i, len_t, int_i, abs_i, List.getElem?_cons_zero, List.getElem?_cons_succ, List.set_cons_zero, List.set_cons_succ, List.length_cons, List.length_nil, Option.some.injEq, W.bl.injEq, W.int.injEq, W.str.injEq, W.tup.injEq, exists_eq_left', exists_eq_left, ↓reduceIte, Bool.not_true, Bool.not_false, Bool.false_eq_true, if_true, if_false, tb_bop0, tb_bop1, tb_bop2, tb_bop3, tb_bop4, tb_bop5, tb_bop6, tb_aug0, tb_aug1, tb_cop0, tb_cop1, tb_cop2, tb_cop3, tb_cop4, tb_cop5, tb_cop6, tb_cop7, tb_cop8, tb_cop9, tb_cop10, tb_cop11, tb_cop12, tb_ix0, tb_ix1, tb_set0, tb_set1, tb_set2, tb_bc0, tb_bc1, tb_bc2, tb_bc3, tb_bc4, tb_bc5, tb_bc6, tb_bc7, tb_bc8, tb_bc9, tb_bc10, tb_bc11, tb_bc12, tb_bc13, tb_bc14, tb_bc15, tb_bc16, tb_bc17, tb_bc18, tb_lf0, tb_lf1, tb_lf2, tb_lf3, tb_lf4, tb_lf5, tb_lf6, tb_bm0, tb_bm1, tb_bm2, tb_bm3, tb_bm4, tb_it0, tb_it1, tb_it2, tb_it3, tb_it4, tb_spc0, tb_spc1, tb_spc2, lb_bops, lb_augs, lb_cops, lb_ixs, lb_sets, lb_bcs, lb_lfs, lb_bms, lb_its, lb_spcs, lb_cst0, lb_cst1, lb_cst2, lb_cst3, lb_cst4, lb_cst5, lb_cst6, lb_clsA0, lb_clsI0]
    exact spoil (l := 6) (by omega) (by omega) (by omega) bx.tp (ho.bx hb bx) vt fun x μ2 h1 h2 h3 => hN2 _ _ ⟨_, _, rfl, h1, by omega, bx.trans h3⟩
  · obtain ⟨t, x7, rfl, vt, dt, bx⟩ := hI
    exact hN _ _ _ ⟨vt.le (by omega), dt⟩ bx
/-- the world and the term are spoilt -/
theorem turnC {x0 x2 x7 x8 x9 x10 x11 : Option W} {p : Addr} {t v u : W} {μ : Mem} (hn : 95 ≤ n) (hb : BgX p μ) (ho : OddM od μ) (hv : Vl p μ 18 v) (hu : Vl p μ 58 u)
    (hN : ∀ v u x7 μ', Vl p μ' 20 v → Vl p μ' 60 u → Bx p μ μ' → dSs (libA c) (Gam (libA c) D n) tb6 [x0, some (.ref od), x2, some (.ref p), some t, some v, some u, x7, x8, x9, x10, x11] μ' DD E) :
    dSs (libA c) (Gam (libA c) D n) tb5 [x0, some (.ref od), x2, some (.ref p), some t, some v, some u, x7, x8, x9, x10, x11] μ DD E := by
  obtain ⟨n, rfl⟩ : ∃ j, n = j + 3 := ⟨n - 3, by omega⟩
  have e0 : tb5 = .cons (headS tb5) tb6 := rfl
  have e1 : ∀ s, dSs (libA c) (Gam (libA c) D (n + 3)) (.cons s tb6) = sSeq (dS (libA c) (Gam (libA c) D (n + 3)) s) (dSs (libA c) (Gam (libA c) D (n + 3)) tb6) := fun s => rfl
  rw [e0]
  simp only [dSs, e1, headS, dropS, tb5, tb, forS, t_law, dSs, dS, dE, dA, dT, dAnds, dOrs, dTAnds, dTOrs, dIfs, dO, dG, dGs, dI, lenGs, sSeq, sIf, sRet, sRetN, sAsg, sDrop, sNext, sPar, sPar3, sBreak, sCont, eVar, eC, eOp, eUn, eChain, eAnd, eOr, eNot, eIte, aNil, aCons, eTup, eLst, eCall, eCB, tVal, tAndM, tOrM, tNotM, eSl, pSome, pNone, eDk0, eDt0, eDkc, gNm, gTp, gNl, gCn, wipeM, List.map_cons, List.map_nil, le_ii, lt_ii, gt_ii, ge_ii, add_ii, sub_ii, iadd_ii, neg_i, len_t, int_i, abs_i, List.getElem?_cons_zero, List.getElem?_cons_succ, List.set_cons_zero, List.set_cons_succ, List.length_cons, List.length_nil, Option.some.injEq, W.bl.injEq, W.int.injEq, W.str.injEq, W.tup.injEq, exists_eq_left', exists_eq_left, ↓reduceIte, Bool.not_true, Bool.not_false, Bool.false_eq_true, if_true, if_false, tb_bop0, tb_bop1, tb_bop2, tb_bop3, tb_bop4, tb_bop5, tb_bop6, tb_aug0, tb_aug1, tb_cop0, tb_cop1, tb_cop2, tb_cop3, tb_cop4, tb_cop5, tb_cop6, tb_cop7, tb_cop8, tb_cop9, tb_cop10, tb_cop11, tb_cop12, tb_ix0, tb_ix1, tb_set0, tb_set1, tb_set2, tb_bc0, tb_bc1, tb_bc2, tb_bc3, tb_bc4, tb_bc5, tb_bc6, tb_bc7, tb_bc8, tb_bc9, tb_bc10, tb_bc11, tb_bc12, tb_bc13, tb_bc14, tb_bc15, tb_bc16, tb_bc17, tb_bc18, tb_lf0, tb_lf1, tb_lf2, tb_lf3, tb_lf4, tb_lf5, tb_lf6, tb_bm0, tb_bm1, tb_bm2, tb_bm3, tb_bm4, tb_it0, tb_it1, tb_it2, tb_it3, tb_it4, tb_spc0, tb_spc1, tb_spc2, lb_bops, lb_augs, lb_cops, lb_ixs, lb_sets, lb_bcs, lb_lfs, lb_bms, lb_its, lb_spcs, lb_cst0, lb_cst1, lb_cst2, lb_cst3, lb_cst4, lb_cst5, lb_cst6, lb_clsA0, lb_clsI0, sFor, iFn]
  refine call_gv (sp_law_draw (by decide) (by decide) hb) fun x μ1 hx => ?_
  obtain ⟨⟨d, rfl, d0, d1⟩, b1⟩ := hx
  refine ⟨d, rfl, by omega, by omega, ?_⟩
  have hlen : (rangeW 0 d.toNat).length ≤ 2 := by rw [rng_len]; omega
  refine loopF_inv (fun i ρ μ' => ∃ v u x7, ρ = [x0, some (.ref od), x2, some (.ref p), some t, some v, some u, x7, x8, x9, x10, x11] ∧ Vl p μ' (18 + i) v ∧ Vl p μ' (58 + i) u ∧ Bx p μ μ') (rangeW 0 d.toNat) 0 _ _ (fun i w ρ μ' N hi hI hN2 => ?_) (fun ρ μ' hI => ?_) ⟨_, _, _, rfl, hv.bx b1, hu.bx b1, b1⟩
  · obtain ⟨v, u, x7, rfl, vv, vu, bx⟩ := hI
    have il := (List.getElem?_eq_some_iff.mp hi).1
    simp only [dSs, dS, dE, dA, dT, dAnds, dOrs, dTAnds, dTOrs, dIfs, dO, dG, dGs, dI, lenGs, sSeq, sIf, sRet, sRetN, sAsg, sDrop, sNext, sPar, sPar3, sBreak, sCont, eVar, eC, eOp, eUn, eChain, eAnd, eOr, eNot, eIte, aNil, aCons, eTup, eLst, eCall, eCB, tVal, tAndM, tOrM, tNotM, eSl, pSome, pNone, eDk0, eDt0, eDkc, gNm, gTp, gNl, gCn, wipeM, List.map_cons, List.map_nil, le_ii, lt_ii, gt_ii, ge_ii, add_ii, sub_ii, iadd_ii, neg_i, len_t, int_i, abs_i, List.getElem?_cons_zero, List.getElem?_cons_succ, List.set_cons_zero, List.set_cons_succ, List.length_cons, List.length_nil, Option.some.injEq, W.bl.injEq, W.int.injEq, W.str.injEq, W.tup.injEq, exists_eq_left', exists_eq_left, ↓reduceIte, Bool.not_true, Bool.not_false, Bool.false_eq_true, if_true, if_false, tb_bop0, tb_bop1, tb_bop2, tb_bop3, tb_bop4, tb_bop5, tb_bop6, tb_aug0, tb_aug1, tb_cop0, tb_cop1, tb_cop2, tb_cop3, tb_cop4, tb_cop5, tb_cop6, tb_cop7, tb_cop8, tb_cop9, tb_cop10, tb_cop11, tb_cop12, tb_ix0, tb_ix1, tb_set0, tb_set1, tb_set2, tb_bc0, tb_bc1, tb_bc2, tb_bc3, tb_bc4, tb_bc5, tb_bc6, tb_bc7, tb_bc8, tb_bc9, tb_bc10, tb_bc11, tb_bc12, tb_bc13, tb_bc14, tb_bc15, tb_bc16, tb_bc17, tb_bc18, tb_lf0, tb_lf1, tb_lf2, tb_lf3, tb_lf4, tb_lf5, tb_lf6, tb_bm0, tb_bm1, tb_bm2, tb_bm3, tb_bm4, tb_it0, tb_it1, tb_it2, tb_it3, tb_it4, tb_spc0, tb_spc1, tb_spc2, lb_bops, lb_augs, lb_cops, lb_ixs, lb_sets, lb_bcs, lb_lfs, lb_bms, lb_its, lb_spcs, lb_cst0, lb_cst1, lb_cst2, lb_cst3, lb_cst4, lb_cst5, lb_cst6, lb_clsA0, lb_clsI0]
    refine spoil (l := 4) (by omega) (by omega) (by omega) bx.tp (ho.bx hb bx) vv fun x μ2 h1 h2 h3 => ?_
    exact spoil (l := 6) (by omega) (by omega) (by omega) h3.tp ((ho.bx hb bx).bx bx.tp h3) (vu.bx h3) fun y μ3 h4 h5 h6 => hN2 _ _ ⟨_, _, _, rfl, h1.bx h6, h4, bx.trans (h3.trans h6)⟩
  · obtain ⟨v, u, x7, rfl, vv, vu, bx⟩ := hI
    exact hN _ _ _ _ (vv.le (by omega)) (vu.le (by omega)) bx
end
end K01
set_option Elab.async false
set_option autoImplicit false
set_option linter.all false
set_option maxRecDepth 100000
namespace K01
open PySem PySem.Spec PyProof.Rows L2 MP
theorem o_repr {b : Bool} {μ : Mem} {Q : MQ} (q : Q (.str (bText b)) μ) : oRepr [.bl b] μ Q := q
theorem s_bt : ∀ b : Bool, PyData.strOk (bText b) = true
  | true => by decide +kernel
  | false => by decide +kernel
theorem ne_ss {s : Str} {μ : Mem} {Q : MQ} (h : PyData.strOk s = true) (q : Q (.bl false) μ) : oNe (.str s) (.str s) μ Q := by
  refine ne_d (.str s) (.str s) ?_ ?_ ?_
  · show (PyData.strOk s && true) = true
    rw [h]; rfl
  · show (PyData.strOk s && true) = true
    rw [h]; rfl
  · rw [eqs_s]
    exact q
abbrev tb8 : XSs := dropS 8 tb
abbrev tb10 : XSs := dropS 10 tb
section
variable {c : List Addr} {n : Nat} {DD : MEnds} {E : MXS} {od : Addr}
theorem turnD {x0 x1 x2 x7 x8 x9 x10 x11 : Option W} {p : Addr} {t v u : W} {μ : Mem} (hn : 95 ≤ n) (ht : Tv p μ t) (hv : Vl p μ 20 v) (hu : Vl p μ 60 u)
    (hN : ∀ x8 x9 x10 μ', Sub μ μ' → DD.nx [x0, x1, x2, some (.ref p), some t, some v, some u, x7, x8, x9, x10, x11] μ') :
    dSs (libA c) (Gam (libA c) D n) tb6 [x0, x1, x2, some (.ref p), some t, some v, some u, x7, x8, x9, x10, x11] μ DD E := by
  obtain ⟨n, rfl⟩ : ∃ j, n = j + 3 := ⟨n - 3, by omega⟩
  simp only [tb6, dropS, tb, forS, t_law, dSs, dS, dE, dA, dT, dAnds, dOrs, dTAnds, dTOrs, dIfs, dO, dG, dGs, dI, lenGs, sSeq, sIf, sRet, sRetN, sAsg, sDrop, sNext, sPar, sPar3, sBreak, sCont, eVar, eC, eOp, eUn, eChain, eAnd, eOr, eNot, eIte, aNil, aCons, eTup, eLst, eCall, eCB, tVal, tAndM, tOrM, tNotM, eSl, pSome, pNone, eDk0, eDt0, eDkc, gNm, gTp, gNl, gCn, wipeM, List.map_cons, List.map_nil, le_ii, lt_ii, gt_ii, ge_ii, add_ii, sub_ii, iadd_ii, neg_i, len_t, int_i, abs_i, List.getElem?_cons_zero, List.getElem?_cons_succ, List.set_cons_zero, List.set_cons_succ, List.length_cons, List.length_nil, Option.some.injEq, W.bl.injEq, W.int.injEq, W.str.injEq, W.tup.injEq, exists_eq_left', exists_eq_left, ↓reduceIte, Bool.not_true, Bool.not_false, Bool.false_eq_true, if_true, if_false, tb_bop0, tb_bop1, tb_bop2, tb_bop3, tb_bop4, tb_bop5, tb_bop6, tb_aug0, tb_aug1, tb_cop0, tb_cop1, tb_cop2, tb_cop3, tb_cop4, tb_cop5, tb_cop6, tb_cop7, tb_cop8, tb_cop9, tb_cop10, tb_cop11, tb_cop12, tb_ix0, tb_ix1, tb_set0, tb_set1, tb_set2, tb_bc0, tb_bc1, tb_bc2, tb_bc3, tb_bc4, tb_bc5, tb_bc6, tb_bc7, tb_bc8, tb_bc9, tb_bc10, tb_bc11, tb_bc12, tb_bc13, tb_bc14, tb_bc15, tb_bc16, tb_bc17, tb_bc18, tb_lf0, tb_lf1, tb_lf2, tb_lf3, tb_lf4, tb_lf5, tb_lf6, tb_bm0, tb_bm1, tb_bm2, tb_bm3, tb_bm4, tb_it0, tb_it1, tb_it2, tb_it3, tb_it4, tb_spc0, tb_spc1, tb_spc2, lb_bops, lb_augs, lb_cops, lb_ixs, lb_sets, lb_bcs, lb_lfs, lb_bms, lb_its, lb_spcs, lb_cst0, lb_cst1, lb_cst2, lb_cst3, lb_cst4, lb_cst5, lb_cst6, lb_clsA0, lb_clsI0]
  refine call_pu (sp_law_is_terms (by omega) ht) (call_pu (sp_is_terms (by omega) ht) ?_)
  refine o_repr (o_repr (ne_ss (s_bt _) ⟨_, rfl, (if_neg (by decide)).mpr ?_⟩))
  refine call_pu (sp_is_world (by omega) (by decide) ht hv) (o_repr (call_pu (sp_law_is_world (by omega) (by decide) ht hv) (o_repr (ne_ss (s_bt _) ⟨_, rfl, (if_neg (by decide)).mpr ⟨_, rfl, ?_⟩⟩))))
  by_cases h : IsTerms t
  · have hT := isTm_t h
    rw [hT, if_pos rfl]
    obtain ⟨k, r, xs, rfl, hx⟩ := h
    intro s hs
    refine ix_t (i := 1) rfl (ix_t (i := 2) rfl (call_gv (sp_law_is_term (s := s) 20 _ u 0 (updM μ s (manyO 0)) (by omega) (hu.sub (sub_upd hs)) updM_same) fun x μ2 hx => ?_))
    obtain ⟨rfl, h2, k2⟩ := hx
    have s2 : Sub μ μ2 := kp_sub hs (sub_upd hs) k2
    have ht2 : Tv p μ2 (termsW k r (xs.map axW)) := ⟨ht.vl.sub s2, ht.dp⟩
    have hw' : wdOf (termsW k r (xs.map axW)) v = isWd k r v := rfl
    have ht' : tmOf (termsW k r (xs.map axW)) u = (good k r 20 u 0).1 := rfl
    refine call_pu (sp_is_term (by omega) ht2 (hu.sub s2)) (o_repr (o_repr ?_))
    rw [hT, ht', Bool.true_and]
    refine ne_ss (s_bt _) ⟨_, rfl, (if_neg (by decide)).mpr ⟨_, rfl, (if_neg (by decide)).mpr ?_⟩⟩
    refine call_pu (sp_law_is_world (by omega) (by decide) ht2 (hv.sub s2)) ⟨_, rfl, ?_⟩
    have told := sp_law_told (c := c) (n := n + 3) (by omega) ht2 (hv.sub s2) (hu.sub s2)
    unfold dueS at told
    rw [hT, hw', ht', if_pos rfl] at told
    rw [hT, hw', Bool.true_and]
    by_cases h3 : isWd k r v = true
    · rw [if_pos h3] at told
      rw [h3, if_neg (by decide)]
      refine ⟨_, rfl, ?_⟩
      by_cases h4 : (good k r 20 u 0).1 = true
      · rw [if_pos h4] at told
        rw [h4, if_pos rfl]
        exact call_pu told (ne_ss (by decide +kernel) ⟨_, rfl, (if_neg (by decide)).mpr (hN _ _ _ _ s2)⟩)
      · rw [if_neg h4] at told
        rw [if_neg h4]
        exact call_pu told (ne_ss (by decide +kernel) ⟨_, rfl, (if_neg (by decide)).mpr (hN _ _ _ _ s2)⟩)
    · rw [if_neg h3] at told
      have h3' : isWd k r v = false := by simpa using h3
      rw [h3', if_pos (by decide)]
      exact call_pu told (ne_ss (by decide +kernel) ⟨_, rfl, (if_neg (by decide)).mpr (hN _ _ _ _ s2)⟩)
  · have hT := isTm_f h
    have told := sp_law_told (c := c) (n := n + 3) (by omega) ht hv hu
    unfold dueS at told
    rw [hT, if_neg (by decide)] at told
    have st := sp_is_term (c := c) (n := n + 3) (by omega) ht hu
    rw [hT, Bool.false_and] at st
    rw [hT, if_neg (by decide)]
    refine call_pu st (o_repr (o_repr (ne_ss (s_bt _) ⟨_, rfl, (if_neg (by decide)).mpr ⟨_, rfl, (if_pos (by decide)).mpr ?_⟩⟩)))
    exact call_pu told (ne_ss (by decide +kernel) ⟨_, rfl, (if_neg (by decide)).mpr (hN _ _ _ _ fun _ _ e => e)⟩)
end
end K01
set_option Elab.async false
set_option autoImplicit false
set_option linter.all false
set_option maxRecDepth 100000
namespace K01
open PySem PySem.Spec PyProof.Rows L2 MP
theorem o_min2 {i j : Int} {μ : Mem} {Q : MQ} (q : Q (.int (if j < i then j else i)) μ) : oMin2 [.int i, .int j] μ Q := q
theorem o_max2 {i j : Int} {μ : Mem} {Q : MQ} (q : Q (.int (if j > i then j else i)) μ) : oMax2 [.int i, .int j] μ Q := q
theorem plain (c : List Addr) : LawS (Gm c 100 j_law) := fun ns hl => by
  refine ⟨rfl, ?_⟩
  show dSs _ _ t_law [some (.rl (ns.map W.int)), none, none, none, none, none, none, none, none, none, none, none] _ _ _
  have e0 : t_law = .cons (headS t_law) (.cons (.for_ (.fn 0 (.cons (.bc 6 (.cons (.int 1) (.cons (.bc 8 (.cons (.int 8) (.cons (.bc 0 (.cons (.var 0) .nil)) .nil))) .nil))) .nil)) (.nm 2) [2] tb) (dropS 2 t_law)) := rfl
  have e1 : dropS 2 t_law = .cons (headS (dropS 2 t_law)) .nil := rfl
  rw [e0]
  have e2 : ∀ s, dSs (libA c) (Gam (libA c) D 99) (.cons s (dropS 2 t_law)) = sSeq (dS (libA c) (Gam (libA c) D 99) s) (dSs (libA c) (Gam (libA c) D 99) (dropS 2 t_law)) := fun s => rfl
  generalize hR : dropS 2 t_law = R at e2
  simp only [headS, t_law, dSs, dS, dE, dA, dT, dAnds, dOrs, dTAnds, dTOrs, dIfs, dO, dG, dGs, dI, lenGs, sSeq, sIf, sRet, sRetN, sAsg, sDrop, sNext, sPar, sPar3, sBreak, sCont, eVar, eC, eOp, eUn, eChain, eAnd, eOr, eNot, eIte, aNil, aCons, eTup, eLst, eCall, eCB, tVal, tAndM, tOrM, tNotM, eSl, pSome, pNone, eDk0, eDt0, eDkc, gNm, gTp, gNl, gCn, wipeM, List.map_cons, List.map_nil, le_ii, lt_ii, gt_ii, ge_ii, add_ii, sub_ii, iadd_ii, neg_i, len_t, int_i, abs_i, List.getElem?_cons_zero, List.getElem?_cons_succ, List.set_cons_zero, List.set_cons_succ, List.length_cons, List.length_nil, Option.some.injEq, W.bl.injEq, W.int.injEq, W.str.injEq, W.tup.injEq, exists_eq_left', exists_eq_left, ↓reduceIte, Bool.not_true, Bool.not_false, Bool.false_eq_true, if_true, if_false, tb_bop0, tb_bop1, tb_bop2, tb_bop3, tb_bop4, tb_bop5, tb_bop6, tb_aug0, tb_aug1, tb_cop0, tb_cop1, tb_cop2, tb_cop3, tb_cop4, tb_cop5, tb_cop6, tb_cop7, tb_cop8, tb_cop9, tb_cop10, tb_cop11, tb_cop12, tb_ix0, tb_ix1, tb_set0, tb_set1, tb_set2, tb_bc0, tb_bc1, tb_bc2, tb_bc3, tb_bc4, tb_bc5, tb_bc6, tb_bc7, tb_bc8, tb_bc9, tb_bc10, tb_bc11, tb_bc12, tb_bc13, tb_bc14, tb_bc15, tb_bc16, tb_bc17, tb_bc18, tb_lf0, tb_lf1, tb_lf2, tb_lf3, tb_lf4, tb_lf5, tb_lf6, tb_bm0, tb_bm1, tb_bm2, tb_bm3, tb_bm4, tb_it0, tb_it1, tb_it2, tb_it3, tb_it4, tb_spc0, tb_spc1, tb_spc2, lb_bops, lb_augs, lb_cops, lb_ixs, lb_sets, lb_bcs, lb_lfs, lb_bms, lb_its, lb_spcs, lb_cst0, lb_cst1, lb_cst2, lb_cst3, lb_cst4, lb_cst5, lb_cst6, lb_clsA0, lb_clsI0, sFor, iFn]
  refine ⟨by decide, by decide, by decide, by decide, by decide, by decide, by decide, by decide, fun a _ => ⟨by decide, fun od hod => ?_⟩⟩
  have nao : a ≠ od := fun z => by subst z; rw [updM_same] at hod; cases hod
  have ho : ∀ μ0, Sub (updM (updM (fun _ => none) a (.lst [.int 0])) od (.lst (oddL a))) μ0 → OddM od μ0 := fun μ0 s => ⟨a, s _ _ updM_same, s _ _ (by rw [updM_ne nao, updM_same])⟩
  have ho0 := ho _ fun _ _ e => e
  generalize hμ : updM (updM (fun _ => none) a (.lst [.int 0])) od (.lst (oddL a)) = μ0 at ho0
  have hμ' : updM (updM (fun _ => none) a (.lst [.int 0])) od (.lst [.int 0, .int 1, .int (-1), .int 6, .int 16, .int 17, .bl true, .non, .str "x", .tup [], .tup [.str "any"], .tup [.str "kind", .int 0], .tup [.str "some", .int 0], .tup [.str "is", .tup [.str "any"], .tup [.str "any"]], .str "world", .ref a]) = μ0 := hμ
  rw [hμ']
  simp only [e2, dSs, dS, dE, dA, dT, dAnds, dOrs, dTAnds, dTOrs, dIfs, dO, dG, dGs, dI, lenGs, sSeq, sIf, sRet, sRetN, sAsg, sDrop, sNext, sPar, sPar3, sBreak, sCont, eVar, eC, eOp, eUn, eChain, eAnd, eOr, eNot, eIte, aNil, aCons, eTup, eLst, eCall, eCB, tVal, tAndM, tOrM, tNotM, eSl, pSome, pNone, eDk0, eDt0, eDkc, gNm, gTp, gNl, gCn, wipeM, List.map_cons, List.map_nil, le_ii, lt_ii, gt_ii, ge_ii, add_ii, sub_ii, iadd_ii, neg_i, len_t, int_i, abs_i, List.getElem?_cons_zero, List.getElem?_cons_succ, List.set_cons_zero, List.set_cons_succ, List.length_cons, List.length_nil, Option.some.injEq, W.bl.injEq, W.int.injEq, W.str.injEq, W.tup.injEq, exists_eq_left', exists_eq_left, ↓reduceIte, Bool.not_true, Bool.not_false, Bool.false_eq_true, if_true, if_false, tb_bop0, tb_bop1, tb_bop2, tb_bop3, tb_bop4, tb_bop5, tb_bop6, tb_aug0, tb_aug1, tb_cop0, tb_cop1, tb_cop2, tb_cop3, tb_cop4, tb_cop5, tb_cop6, tb_cop7, tb_cop8, tb_cop9, tb_cop10, tb_cop11, tb_cop12, tb_ix0, tb_ix1, tb_set0, tb_set1, tb_set2, tb_bc0, tb_bc1, tb_bc2, tb_bc3, tb_bc4, tb_bc5, tb_bc6, tb_bc7, tb_bc8, tb_bc9, tb_bc10, tb_bc11, tb_bc12, tb_bc13, tb_bc14, tb_bc15, tb_bc16, tb_bc17, tb_bc18, tb_lf0, tb_lf1, tb_lf2, tb_lf3, tb_lf4, tb_lf5, tb_lf6, tb_bm0, tb_bm1, tb_bm2, tb_bm3, tb_bm4, tb_it0, tb_it1, tb_it2, tb_it3, tb_it4, tb_spc0, tb_spc1, tb_spc2, lb_bops, lb_augs, lb_cops, lb_ixs, lb_sets, lb_bcs, lb_lfs, lb_bms, lb_its, lb_spcs, lb_cst0, lb_cst1, lb_cst2, lb_cst3, lb_cst4, lb_cst5, lb_cst6, lb_clsA0, lb_clsI0, sFor, iFn]
  refine len_rl ?_
  refine o_min2 (o_max2 ?_)
  generalize hm : (if (if ((ns.map W.int).length : Int) < 8 then ((ns.map W.int).length : Int) else 8) > 1 then (if ((ns.map W.int).length : Int) < 8 then ((ns.map W.int).length : Int) else 8) else 1) = m
  have h1 : 1 ≤ m ∧ m ≤ 8 := by
    rw [← hm]
    split <;> split <;> omega
  refine ⟨m, rfl, by omega, by omega, ?_⟩
  refine loopF_inv (fun _ ρ μ => ∃ ys : List (Option W), ys.length = 10 ∧ ρ = some (.rl (ns.map W.int)) :: some (.ref od) :: ys ∧ OddM od μ) (rangeW 0 m.toNat) 0 _ _ (fun i w ρ μ N hi hI hN => ?_) (fun ρ μ hI => ?_) ⟨[_, _, _, _, _, _, _, _, _, _], rfl, rfl, ho0⟩
  · obtain ⟨ys, hy, rfl, ho⟩ := hI
    have hw := List.mem_of_getElem? hi
    obtain ⟨j, _, rfl⟩ := rng_mem hw
    match ys, hy with
    | [y2, y3, y4, y5, y6, y7, y8, y9, y10, y11], _ =>
      refine turnA1 (by decide) ho fun p k r axs μ1 k1 k2 r1 r2 vt dt hb ho1 => ?_
      refine turnA2 (by decide) k1 k2 r1 r2 hb fun v u μ2 vv vu b2 => ?_
      refine turnB (by decide) b2.tp (ho1.bx hb b2) (vt.bx b2) dt fun t x7 μ3 tv b3 => ?_
      have ho3 := (ho1.bx hb b2).bx b2.tp b3
      refine turnC (by decide) b3.tp ho3 (vv.bx b3) (vu.bx b3) fun v u x7 μ4 vv vu b4 => ?_
      refine turnD (by decide) ⟨tv.vl.bx b4, tv.dp⟩ vv vu fun x8 x9 x10 μ5 s5 => hN _ _ ⟨[_, _, _, _, _, _, _, _, _, _], rfl, rfl, ?_⟩
      obtain ⟨a, h1, h2⟩ := ho3.bx b3.tp b4
      exact ⟨a, s5 _ _ h1, s5 _ _ h2⟩
  · obtain ⟨ys, hy, rfl, ho⟩ := hI
    rw [← hR, e1]
    match ys, hy with
    | [y2, y3, y4, y5, y6, y7, y8, y9, y10, y11], _ =>
      simp only [headS, dropS, t_law, dSs, dS, dE, dA, dT, dAnds, dOrs, dTAnds, dTOrs, dIfs, dO, dG, dGs, dI, lenGs, sSeq, sIf, sRet, sRetN, sAsg, sDrop, sNext, sPar, sPar3, sBreak, sCont, eVar, eC, eOp, eUn, eChain, eAnd, eOr, eNot, eIte, aNil, aCons, eTup, eLst, eCall, eCB, tVal, tAndM, tOrM, tNotM, eSl, pSome, pNone, eDk0, eDt0, eDkc, gNm, gTp, gNl, gCn, wipeM, List.map_cons, List.map_nil, le_ii, lt_ii, gt_ii, ge_ii, add_ii, sub_ii, iadd_ii, neg_i, len_t, int_i, abs_i, List.getElem?_cons_zero, List.getElem?_cons_succ, List.set_cons_zero, List.set_cons_succ, List.length_cons, List.length_nil, Option.some.injEq, W.bl.injEq, W.int.injEq, W.str.injEq, W.tup.injEq, exists_eq_left', exists_eq_left, ↓reduceIte, Bool.not_true, Bool.not_false, Bool.false_eq_true, if_true, if_false, tb_bop0, tb_bop1, tb_bop2, tb_bop3, tb_bop4, tb_bop5, tb_bop6, tb_aug0, tb_aug1, tb_cop0, tb_cop1, tb_cop2, tb_cop3, tb_cop4, tb_cop5, tb_cop6, tb_cop7, tb_cop8, tb_cop9, tb_cop10, tb_cop11, tb_cop12, tb_ix0, tb_ix1, tb_set0, tb_set1, tb_set2, tb_bc0, tb_bc1, tb_bc2, tb_bc3, tb_bc4, tb_bc5, tb_bc6, tb_bc7, tb_bc8, tb_bc9, tb_bc10, tb_bc11, tb_bc12, tb_bc13, tb_bc14, tb_bc15, tb_bc16, tb_bc17, tb_bc18, tb_lf0, tb_lf1, tb_lf2, tb_lf3, tb_lf4, tb_lf5, tb_lf6, tb_bm0, tb_bm1, tb_bm2, tb_bm3, tb_bm4, tb_it0, tb_it1, tb_it2, tb_it3, tb_it4, tb_spc0, tb_spc1, tb_spc2, lb_bops, lb_augs, lb_cops, lb_ixs, lb_sets, lb_bcs, lb_lfs, lb_bms, lb_its, lb_spcs, lb_cst0, lb_cst1, lb_cst2, lb_cst3, lb_cst4, lb_cst5, lb_cst6, lb_clsA0, lb_clsI0, eLcI, iSq]
      refine ⟨by decide, by decide, fun q hq => ⟨_, .inl ⟨updM_same, ?_⟩⟩⟩
      have tv : ∀ μ v, v ∈ [W.non, .tup [], .str "terms", .int 5] → Tv od μ v ∧ ¬ IsTerms v := fun μ v hv => by
        simp only [List.mem_cons, List.not_mem_nil, or_false] at hv
        rcases hv with rfl | rfl | rfl | rfl
        · exact ⟨⟨.non, by decide⟩, fun ⟨_, _, _, h, _⟩ => by cases h⟩
        · exact ⟨⟨.tup _ (by simp) (by decide), by decide⟩, fun ⟨_, _, _, h, _⟩ => by cases h⟩
        · exact ⟨⟨.str _ sk_terms, by decide⟩, fun ⟨_, _, _, h, _⟩ => by cases h⟩
        · exact ⟨⟨.int _, by decide⟩, fun ⟨_, _, _, h, _⟩ => by cases h⟩
      refine loopC_all (fun _ => .bl false) updM_same _ _ (fun u hu Q' q' => ?_) (le_line (by decide)) ?_
      · obtain ⟨t1, t2⟩ := tv (updM μ q (.lst [.non, .tup [], .str "terms", .int 5])) u hu
        have st := sp_is_terms (c := c) (n := 99) (by decide) t1
        rw [isTm_f t2] at st
        simp only [dSs, dS, dE, dA, dT, dAnds, dOrs, dTAnds, dTOrs, dIfs, dO, dG, dGs, dI, lenGs, sSeq, sIf, sRet, sRetN, sAsg, sDrop, sNext, sPar, sPar3, sBreak, sCont, eVar, eC, eOp, eUn, eChain, eAnd, eOr, eNot, eIte, aNil, aCons, eTup, eLst, eCall, eCB, tVal, tAndM, tOrM, tNotM, eSl, pSome, pNone, eDk0, eDt0, eDkc, gNm, gTp, gNl, gCn, wipeM, List.map_cons, List.map_nil, le_ii, lt_ii, gt_ii, ge_ii, add_ii, sub_ii, iadd_ii, neg_i, len_t, int_i, abs_i, List.getElem?_cons_zero, List.getElem?_cons_succ, List.set_cons_zero, List.set_cons_succ, List.length_cons, List.length_nil, Option.some.injEq, W.bl.injEq, W.int.injEq, W.str.injEq, W.tup.injEq, exists_eq_left', exists_eq_left, ↓reduceIte, Bool.not_true, Bool.not_false, Bool.false_eq_true, if_true, if_false, tb_bop0, tb_bop1, tb_bop2, tb_bop3, tb_bop4, tb_bop5, tb_bop6, tb_aug0, tb_aug1, tb_cop0, tb_cop1, tb_cop2, tb_cop3, tb_cop4, tb_cop5, tb_cop6, tb_cop7, tb_cop8, tb_cop9, tb_cop10, tb_cop11, tb_cop12, tb_ix0, tb_ix1, tb_set0, tb_set1, tb_set2, tb_bc0, tb_bc1, tb_bc2, tb_bc3, tb_bc4, tb_bc5, tb_bc6, tb_bc7, tb_bc8, tb_bc9, tb_bc10, tb_bc11, tb_bc12, tb_bc13, tb_bc14, tb_bc15, tb_bc16, tb_bc17, tb_bc18, tb_lf0, tb_lf1, tb_lf2, tb_lf3, tb_lf4, tb_lf5, tb_lf6, tb_bm0, tb_bm1, tb_bm2, tb_bm3, tb_bm4, tb_it0, tb_it1, tb_it2, tb_it3, tb_it4, tb_spc0, tb_spc1, tb_spc2, lb_bops, lb_augs, lb_cops, lb_ixs, lb_sets, lb_bcs, lb_lfs, lb_bms, lb_its, lb_spcs, lb_cst0, lb_cst1, lb_cst2, lb_cst3, lb_cst4, lb_cst5, lb_cst6, lb_clsA0, lb_clsI0]
        exact call_pu st q'
      · intro q1 hq1
        refine ⟨by decide, fun q2 hq2 => ⟨_, updM_same, by decide, by decide, by decide, fun q3 hq3 => ?_⟩⟩
        have n12 : q1 ≠ q2 := fun z => by subst z; rw [updM_same] at hq2; cases hq2
        have n13 : q1 ≠ q3 := fun z => by subst z; rw [updM_ne n12, updM_same] at hq3; cases hq3
        refine ⟨_, _, .lst (by rw [updM_ne n13, updM_ne n12]; exact updM_same) (dats_bls [false, false, false, false]), .lst updM_same (dats_bls [false, false, false, false]), by decide +kernel, by decide +kernel, ⟨true, congrArg W.bl (by decide +kernel), (if_pos rfl).mpr ?_⟩⟩
        generalize updM (updM _ _ _) _ _ = μ3
        obtain ⟨t1, t2⟩ := tv μ3 .non (by simp)
        obtain ⟨t3, t4⟩ := tv μ3 (.tup []) (by simp)
        have st := sp_is_term (c := c) (n := 99) (L := 1) (v := .tup [.str "any"]) (by decide) t1 (vl_t1 (by decide) (.str _ sk_any))
        rw [isTm_f t2] at st
        have sw := sp_is_world (c := c) (n := 99) (L := 60) (v := .tup []) (by decide) (by decide) t3 t3.vl
        rw [isTm_f t4] at sw
        refine ⟨by decide, call_pu st ⟨true, rfl, (if_pos rfl).mpr ⟨by decide, by decide, call_pu sw (Dn.of (Q := fun (x : W) (_ : Mem) => x = W.bl true) (x := W.bl true) (μ := μ3) rfl)⟩⟩⟩
end K01
open PySem PySem.W PyProof.Rows
set_option maxHeartbeats 0 in
theorem PySem.Challenge.cw_kindsandroles_k01_terms_terminologies_an_holds : PySem.Challenge.rw_kindsandroles_k01_terms_terminologies_an.Holds := by
  w_on; o_law; k_head; (case hw => w_witness2)
  k_fill
  refine MP.walkM (l := PySem.Challenge.rw_kindsandroles_k01_terms_terminologies_an) (n := 100) rfl rfl ⟨rfl, by decide, by decide⟩ (fun w h Y => PySem.W.kIn_of Y) ?F
  intro w mg fa h KX G hmg
  refine K01.law_at (l := PySem.Challenge.rw_kindsandroles_k01_terms_terminologies_an) 100 hmg ?P (fun C0 => K01.plain [C0]) (fun base L hm e => MP.spcs_ok hm e)
  refine' K01.prg ?K0 ?T0 ?T1 ?T2 ?T5 ?T6 ?T7 ?T8 ?T9 ?T10 ?T11 ?T12 ?T13 ?T14 ?T15 ?T16 ?T17 ?T18 ?T19 ?T20 ?T21 ?T22 ?T23 ?T24 ?T25 ?T26 ?T27 ?T28 ?T29 ?T30 ?T31 ?T32 ?T33 ?T34 ?T35 ?T36 ?T37 ?T38 ?E_BadTerms ?E_BadTerm ?E_BadWorld ?P_BadTerms_BadTerms ?P_BadTerms_BadTerm ?P_BadTerms_BadWorld ?P_BadTerm_BadTerms ?P_BadTerm_BadTerm ?P_BadTerm_BadWorld ?P_BadWorld_BadTerms ?P_BadWorld_BadTerm ?P_BadWorld_BadWorld ?V_MOST_SIZE ?V_MOST_DEPTH ?V_MOST_TOTAL ?V_MOST_AXIOMS ?V_MOST_ROLES ?V_MOST_KINDS ?V_MOST_THINGS ?NM
  (case K0 =>
    refine' K01.cls0_mk KX G ?aC ?pg ?hd ?po ?sa ?mk ?kc ?a0 ?i0 ?l0 ?c0 ?k0 ?a1 ?i1 ?l1 ?c1 ?k1 ?n0 ?n1 ?n2
    (case aC => k_is)
    (case pg => k_is)
    (case hd => k_is)
    (case po => k_is)
    (case sa => k_is)
    (case mk => k_is)
    (case kc => k_is)
    (case a0 => k_is)
    (case i0 => k_is)
    (case l0 => k_is)
    (case c0 => k_is)
    (case k0 => k_is)
    (case a1 => k_is)
    (case i1 => k_is)
    (case l1 => k_is)
    (case c1 => k_is)
    (case k1 => k_is)
    (case n0 => k_is)
    (case n1 => k_is)
    (case n2 => k_is))
  (case T0 =>
    refine' K01.tp0 KX G ?a ?l ?c ?k
    (case a => k_is); (case l => k_is); (case c => k_is); (case k => k_is))
  (case T1 =>
    refine' K01.tp1 KX G ?a ?l ?c ?k
    (case a => k_is); (case l => k_is); (case c => k_is); (case k => k_is))
  (case T2 =>
    refine' K01.tp2 KX G ?a ?l ?c ?k
    (case a => k_is); (case l => k_is); (case c => k_is); (case k => k_is))
  (case T5 =>
    refine' K01.tp5 KX G ?a ?l ?c ?k
    (case a => k_is); (case l => k_is); (case c => k_is); (case k => k_is))
  (case T6 =>
    refine' K01.tp6 KX G ?a ?l ?c ?k
    (case a => k_is); (case l => k_is); (case c => k_is); (case k => k_is))
  (case T7 =>
    refine' K01.tp7 KX G ?a ?l ?c ?k
    (case a => k_is); (case l => k_is); (case c => k_is); (case k => k_is))
  (case T8 =>
    refine' K01.tp8 KX G ?a ?l ?c ?k
    (case a => k_is); (case l => k_is); (case c => k_is); (case k => k_is))
  (case T9 =>
    refine' K01.tp9 KX G ?a ?l ?c ?k
    (case a => k_is); (case l => k_is); (case c => k_is); (case k => k_is))
  (case T10 =>
    refine' K01.tp10 KX G ?a ?l ?c ?k
    (case a => k_is); (case l => k_is); (case c => k_is); (case k => k_is))
  (case T11 =>
    refine' K01.tp11 KX G ?a ?l ?c ?k
    (case a => k_is); (case l => k_is); (case c => k_is); (case k => k_is))
  (case T12 =>
    refine' K01.tp12 KX G ?a ?l ?c ?k
    (case a => k_is); (case l => k_is); (case c => k_is); (case k => k_is))
  (case T13 =>
    refine' K01.tp13 KX G ?a ?l ?c ?k
    (case a => k_is); (case l => k_is); (case c => k_is); (case k => k_is))
  (case T14 =>
    refine' K01.tp14 KX G ?a ?l ?c ?k
    (case a => k_is); (case l => k_is); (case c => k_is); (case k => k_is))
  (case T15 =>
    refine' K01.tp15 KX G ?a ?l ?c ?k
    (case a => k_is); (case l => k_is); (case c => k_is); (case k => k_is))
  (case T16 =>
    refine' K01.tp16 KX G ?a ?l ?c ?k
    (case a => k_is); (case l => k_is); (case c => k_is); (case k => k_is))
  (case T17 =>
    refine' K01.tp17 KX G ?a ?l ?c ?k
    (case a => k_is); (case l => k_is); (case c => k_is); (case k => k_is))
  (case T18 =>
    refine' K01.tp18 KX G ?a ?l ?c ?k
    (case a => k_is); (case l => k_is); (case c => k_is); (case k => k_is))
  (case T19 =>
    refine' K01.tp19 KX G ?a ?l ?c ?k
    (case a => k_is); (case l => k_is); (case c => k_is); (case k => k_is))
  (case T20 =>
    refine' K01.tp20 KX G ?a ?l ?c ?k
    (case a => k_is); (case l => k_is); (case c => k_is); (case k => k_is))
  (case T21 =>
    refine' K01.tp21 KX G ?a ?l ?c ?k
    (case a => k_is); (case l => k_is); (case c => k_is); (case k => k_is))
  (case T22 =>
    refine' K01.tp22 KX G ?a ?l ?c ?k
    (case a => k_is); (case l => k_is); (case c => k_is); (case k => k_is))
  (case T23 =>
    refine' K01.tp23 KX G ?a ?l ?c ?k
    (case a => k_is); (case l => k_is); (case c => k_is); (case k => k_is))
  (case T24 =>
    refine' K01.tp24 KX G ?a ?l ?c ?k
    (case a => k_is); (case l => k_is); (case c => k_is); (case k => k_is))
  (case T25 =>
    refine' K01.tp25 KX G ?a ?l ?c ?k
    (case a => k_is); (case l => k_is); (case c => k_is); (case k => k_is))
  (case T26 =>
    refine' K01.tp26 KX G ?a ?l ?c ?k
    (case a => k_is); (case l => k_is); (case c => k_is); (case k => k_is))
  (case T27 =>
    refine' K01.tp27 KX G ?a ?l ?c ?k
    (case a => k_is); (case l => k_is); (case c => k_is); (case k => k_is))
  (case T28 =>
    refine' K01.tp28 KX G ?a ?l ?c ?k
    (case a => k_is); (case l => k_is); (case c => k_is); (case k => k_is))
  (case T29 =>
    refine' K01.tp29 KX G ?a ?l ?c ?k
    (case a => k_is); (case l => k_is); (case c => k_is); (case k => k_is))
  (case T30 =>
    refine' K01.tp30 KX G ?a ?l ?c ?k
    (case a => k_is); (case l => k_is); (case c => k_is); (case k => k_is))
  (case T31 =>
    refine' K01.tp31 KX G ?a ?l ?c ?k
    (case a => k_is); (case l => k_is); (case c => k_is); (case k => k_is))
  (case T32 =>
    refine' K01.tp32 KX G ?a ?l ?c ?k
    (case a => k_is); (case l => k_is); (case c => k_is); (case k => k_is))
  (case T33 =>
    refine' K01.tp33 KX G ?a ?l ?c ?k
    (case a => k_is); (case l => k_is); (case c => k_is); (case k => k_is))
  (case T34 =>
    refine' K01.tp34 KX G ?a ?l ?c ?k
    (case a => k_is); (case l => k_is); (case c => k_is); (case k => k_is))
  (case T35 =>
    refine' K01.tp35 KX G ?a ?l ?c ?k
    (case a => k_is); (case l => k_is); (case c => k_is); (case k => k_is))
  (case T36 =>
    refine' K01.tp36 KX G ?a ?l ?c ?k
    (case a => k_is); (case l => k_is); (case c => k_is); (case k => k_is))
  (case T37 =>
    refine' K01.tp37 KX G ?a ?l ?c ?k
    (case a => k_is); (case l => k_is); (case c => k_is); (case k => k_is))
  (case T38 =>
    refine' K01.tp38 KX G ?a ?l ?c ?k
    (case a => k_is); (case l => k_is); (case c => k_is); (case k => k_is))
  (case E_BadTerms =>
    refine' MP.exc_mk KX G ?a ?k ?s ?t ?e
    (case a => k_is); (case k => k_is); (case s => k_is); (case t => k_is); (case e => k_exc))
  (case E_BadTerm =>
    refine' MP.exc_mk KX G ?a ?k ?s ?t ?e
    (case a => k_is); (case k => k_is); (case s => k_is); (case t => k_is); (case e => k_exc))
  (case E_BadWorld =>
    refine' MP.exc_mk KX G ?a ?k ?s ?t ?e
    (case a => k_is); (case k => k_is); (case s => k_is); (case t => k_is); (case e => k_exc))
  (case P_BadTerms_BadTerms =>
    refine' MP.xt_mk (b := true) KX G (by decide +kernel) ?a ?c ?s ?i ?t ?e
    (case a => k_is); (case c => k_is); (case s => k_is); (case i => k_is); (case t => k_is); (case e => first | rfl | k_is))
  (case P_BadTerms_BadTerm =>
    refine' MP.xt_mk (b := false) KX G (by decide +kernel) ?a ?c ?s ?i ?t ?e
    (case a => k_is); (case c => k_is); (case s => k_is); (case i => k_is); (case t => k_is); (case e => first | rfl | k_is))
  (case P_BadTerms_BadWorld =>
    refine' MP.xt_mk (b := false) KX G (by decide +kernel) ?a ?c ?s ?i ?t ?e
    (case a => k_is); (case c => k_is); (case s => k_is); (case i => k_is); (case t => k_is); (case e => first | rfl | k_is))
  (case P_BadTerm_BadTerms =>
    refine' MP.xt_mk (b := false) KX G (by decide +kernel) ?a ?c ?s ?i ?t ?e
    (case a => k_is); (case c => k_is); (case s => k_is); (case i => k_is); (case t => k_is); (case e => first | rfl | k_is))
  (case P_BadTerm_BadTerm =>
    refine' MP.xt_mk (b := true) KX G (by decide +kernel) ?a ?c ?s ?i ?t ?e
    (case a => k_is); (case c => k_is); (case s => k_is); (case i => k_is); (case t => k_is); (case e => first | rfl | k_is))
  (case P_BadTerm_BadWorld =>
    refine' MP.xt_mk (b := false) KX G (by decide +kernel) ?a ?c ?s ?i ?t ?e
    (case a => k_is); (case c => k_is); (case s => k_is); (case i => k_is); (case t => k_is); (case e => first | rfl | k_is))
  (case P_BadWorld_BadTerms =>
    refine' MP.xt_mk (b := false) KX G (by decide +kernel) ?a ?c ?s ?i ?t ?e
    (case a => k_is); (case c => k_is); (case s => k_is); (case i => k_is); (case t => k_is); (case e => first | rfl | k_is))
  (case P_BadWorld_BadTerm =>
    refine' MP.xt_mk (b := false) KX G (by decide +kernel) ?a ?c ?s ?i ?t ?e
    (case a => k_is); (case c => k_is); (case s => k_is); (case i => k_is); (case t => k_is); (case e => first | rfl | k_is))
  (case P_BadWorld_BadWorld =>
    refine' MP.xt_mk (b := true) KX G (by decide +kernel) ?a ?c ?s ?i ?t ?e
    (case a => k_is); (case c => k_is); (case s => k_is); (case i => k_is); (case t => k_is); (case e => first | rfl | k_is))
  (case V_MOST_SIZE =>
    refine' MP.int_mk KX G ?a
    (case a => k_is))
  (case V_MOST_DEPTH =>
    refine' MP.int_mk KX G ?a
    (case a => k_is))
  (case V_MOST_TOTAL =>
    refine' MP.int_mk KX G ?a
    (case a => k_is))
  (case V_MOST_AXIOMS =>
    refine' MP.int_mk KX G ?a
    (case a => k_is))
  (case V_MOST_ROLES =>
    refine' MP.int_mk KX G ?a
    (case a => k_is))
  (case V_MOST_KINDS =>
    refine' MP.int_mk KX G ?a
    (case a => k_is))
  (case V_MOST_THINGS =>
    refine' MP.int_mk KX G ?a
    (case a => k_is))
  (case NM =>
    refine' MP.nms_mk KX G ?a
    (case a =>
      simp only [MP.stdNames, List.forall_mem_cons, List.not_mem_nil, false_implies, implies_true, and_true]
      refine ⟨?_, ?_, ?_, ?_, ?_, ?_, ?_, ?_, ?_, ?_, ?_, ?_, ?_, ?_, ?_, ?_, ?_, ?_, ?_, ?_⟩ <;> k_is))
