import PyProof.Rows.All
import HandS.ForMost
import HandS.Wide
import HandS.WordsExc
import HandS.Defaults
import HandS.Zip
import HandS.IsInst
import HandS.Flow
import HandS.SortInts
import HandS.Star
import KE.KTupSum
import HandS.Head0
import HandS.Head1
import HandS.Head2
import HandS.HeadEnd
import HandS.HeadHook1
import HandS.HeadHook2
import HandS.EndBits
import KE.GoesMore
import HandS.SortKw
import PySem.Challenge.RW_growback_k94_great_starts
set_option Elab.async false
set_option linter.all false
set_option maxRecDepth 100000
set_option maxHeartbeats 2000000
/-! The lift layer: each construct of Python as a plain computable function over values and a list of objects; `lift` ties it to the hand layer's readings. -/
namespace GB
open PySem PySem.Spec PyProof.Rows L2

/-! ### values, objects, results -/
inductive PV where
  | non | bl (b : Bool) | int (i : Int) | str (x : Str) | tup (xs : List PV) | ref (l : Nat) | raw (v : V)
inductive Ob where
  | lst (xs : List PV) | ro (xs : List PV)
abbrev Mu := List Ob
structure Ex where
  cls : Str
  flds : List (Str × PV)
inductive R (α : Type) where
  | ok (a : α) (μ : Mu)
  | exc (e : Ex) (μ : Mu)
  | bad
def R.bind {α β : Type} (r : R α) (f : α → Mu → R β) : R β := match r with
  | .ok a μ => f a μ
  | .exc e μ => .exc e μ
  | .bad => .bad
theorem ndf {α : Sort _} {a b : α} (h : a = b) : a = b := h
@[simp] theorem R.bind_ok {α β : Type} {a : α} {μ : Mu} {f : α → Mu → R β} : (R.ok a μ).bind f = f a μ := ndf rfl
@[simp] theorem R.bind_exc {α β : Type} {e : Ex} {μ : Mu} {f : α → Mu → R β} : (R.exc e μ : R α).bind f = .exc e μ := ndf rfl
@[simp] theorem R.bind_bad {α β : Type} {f : α → Mu → R β} : (R.bad : R α).bind f = .bad := ndf rfl
abbrev Rho := List (Option PV)

/-! ### what a value stands for -/
mutual
def Rep (K : PySem.W.Frag) (ι : List Addr) (H : Hp) : PV → V → Prop
  | .non, v => v = .non
  | .bl b, v => v = .bl b
  | .int i, v => v = .int i
  | .str x, v => v = .str x
  | .tup xs, v => ∃ a vs, v = .ref a ∧ SqT K H a vs ∧ RepL K ι H xs vs
  | .ref l, v => ∃ a, v = .ref a ∧ ι[l]? = some a
  | .raw u, v => v = u
def RepL (K : PySem.W.Frag) (ι : List Addr) (H : Hp) : List PV → List V → Prop
  | [], vs => vs = []
  | x :: xs, vs => ∃ v r, vs = v :: r ∧ Rep K ι H x v ∧ RepL K ι H xs r
end
structure Grow (K : PySem.W.Frag) (ι : List Addr) (H : Hp) (ι' : List Addr) (H' : Hp) : Prop where
  pre : ι <+: ι'
  tup : ∀ a vs, SqT K H a vs → SqT K H' a vs
  frm : ∀ a o, a ∉ ι → H a = some o → H' a = some o
  new : ∀ p, p ∈ ι' → p ∈ ι ∨ H p = none
section
variable {K : PySem.W.Frag} {ι ι' ι'' : List Addr} {H H' H'' : Hp}
theorem Grow.refl : Grow K ι H ι H := ⟨List.prefix_refl _, fun _ _ h => h, fun _ _ _ h => h, fun _ h => .inl h⟩
theorem Grow.trans (a : Grow K ι H ι' H') (b : Grow K ι' H' ι'' H'') : Grow K ι H ι'' H'' := by
  refine ⟨a.pre.trans b.pre, fun c vs h => b.tup c vs (a.tup c vs h), fun c o n h => b.frm c o (fun z => ?_) (a.frm c o n h), fun p hp => ?_⟩
  · rcases a.new c z with q | q
    · exact n q
    · rw [h] at q; cases q
  · rcases b.new p hp with q | q
    · exact a.new p q
    · by_cases hi : p ∈ ι
      · exact .inl hi
      · right
        cases z : H p with
        | none => rfl
        | some o => rw [a.frm p o hi z] at q; cases q
theorem pre_get {α : Type} {l l' : List α} (h : l <+: l') {i : Nat} {a : α} (e : l[i]? = some a) : l'[i]? = some a := by
  obtain ⟨t, rfl⟩ := h
  obtain ⟨hi, _⟩ := List.getElem?_eq_some_iff.mp e
  rw [List.getElem?_append_left hi]; exact e
mutual
theorem Rep.grow (g : Grow K ι H ι' H') : ∀ {x : PV} {v : V}, Rep K ι H x v → Rep K ι' H' x v
  | .non, _, h => h
  | .bl _, _, h => h
  | .int _, _, h => h
  | .str _, _, h => h
  | .tup xs, _, ⟨a, vs, e, s, r⟩ => ⟨a, vs, e, g.tup a vs s, RepL.grow g r⟩
  | .ref _, _, ⟨a, e, h⟩ => ⟨a, e, pre_get g.pre h⟩
  | .raw _, _, h => h
theorem RepL.grow (g : Grow K ι H ι' H') : ∀ {xs : List PV} {vs : List V}, RepL K ι H xs vs → RepL K ι' H' xs vs
  | [], _, h => h
  | _ :: _, _, ⟨v, r, e, h1, h2⟩ => ⟨v, r, e, Rep.grow g h1, RepL.grow g h2⟩
end
theorem RepL.nil_ : RepL K ι H [] [] := rfl
theorem RepL.cons_ {x : PV} {v : V} {xs : List PV} {vs : List V} (h : Rep K ι H x v) (t : RepL K ι H xs vs) : RepL K ι H (x :: xs) (v :: vs) := ⟨v, vs, rfl, h, t⟩
theorem RepL.length : ∀ {xs : List PV} {vs : List V}, RepL K ι H xs vs → vs.length = xs.length
  | [], _, h => by rw [show _ = [] from h]; rfl
  | _ :: _, _, ⟨v, r, e, _, h⟩ => by rw [e, List.length_cons, List.length_cons, RepL.length h]
theorem RepL.get : ∀ {xs : List PV} {vs : List V} {i : Nat} {x : PV}, RepL K ι H xs vs → xs[i]? = some x → ∃ v, vs[i]? = some v ∧ Rep K ι H x v
  | [], _, _, _, _, e => by simp at e
  | _ :: _, _, 0, _, ⟨v, r, e, h, _⟩, q => by
    simp at q; subst q; subst e; exact ⟨v, rfl, h⟩
  | _ :: xs, _, i + 1, x, ⟨v, r, e, _, h⟩, q => by
    subst e
    obtain ⟨u, h1, h2⟩ := RepL.get (i := i) h (by simpa using q)
    exact ⟨u, by simpa using h1, h2⟩
theorem RepL.back : ∀ {xs : List PV} {vs : List V} {i : Nat} {v : V}, RepL K ι H xs vs → vs[i]? = some v → ∃ x, xs[i]? = some x ∧ Rep K ι H x v
  | [], _, _, _, h, e => by rw [show _ = [] from h] at e; simp at e
  | x :: _, _, 0, _, ⟨v, r, e, h, _⟩, q => by
    subst e; simp at q; subst q; exact ⟨x, rfl, h⟩
  | _ :: xs, _, i + 1, x, ⟨v, r, e, _, h⟩, q => by
    subst e
    obtain ⟨u, h1, h2⟩ := RepL.back (i := i) h (by simpa using q)
    exact ⟨u, by simpa using h1, h2⟩
theorem RepL.append : ∀ {xs ys : List PV} {vs us : List V}, RepL K ι H xs vs → RepL K ι H ys us → RepL K ι H (xs ++ ys) (vs ++ us)
  | [], _, _, _, h, h2 => by rw [show _ = [] from h]; exact h2
  | _ :: _, _, _, _, ⟨v, r, e, h, t⟩, h2 => by
    subst e; exact ⟨v, _, rfl, h, RepL.append t h2⟩
theorem RepL.set {y : PV} {u : V} (hy : Rep K ι H y u) : ∀ {xs : List PV} {vs : List V} (i : Nat), RepL K ι H xs vs → RepL K ι H (xs.set i y) (vs.set i u)
  | [], _, _, h => by rw [show _ = [] from h]; rfl
  | _ :: _, _, 0, ⟨v, r, e, _, t⟩ => by subst e; exact ⟨u, r, rfl, hy, t⟩
  | _ :: _, _, i + 1, ⟨v, r, e, h, t⟩ => by subst e; exact ⟨v, _, rfl, h, RepL.set hy i t⟩
theorem RepL.take : ∀ {xs : List PV} {vs : List V} (n : Nat), RepL K ι H xs vs → RepL K ι H (xs.take n) (vs.take n)
  | [], _, n, h => by rw [show _ = [] from h]; simp [RepL]
  | _ :: _, _, 0, _ => rfl
  | _ :: _, _, n + 1, ⟨v, r, e, h, t⟩ => by subst e; exact ⟨v, _, rfl, h, RepL.take n t⟩
theorem RepL.drop : ∀ {xs : List PV} {vs : List V} (n : Nat), RepL K ι H xs vs → RepL K ι H (xs.drop n) (vs.drop n)
  | [], _, n, h => by rw [show _ = [] from h]; simp [RepL]
  | _ :: _, _, 0, h => h
  | _ :: _, _, n + 1, ⟨v, r, e, h, t⟩ => by subst e; exact RepL.drop n t

/-- a list of the module's own, as it is written -/
def KL (K : PySem.W.Frag) (a : Addr) (vs : List V) : Prop := ∃ (o : Obj) (its : Array Value) (n : Nat), K.lookup a = some o ∧ o.cls = .type "list" ∧ o.dict = none ∧ o.data = .seq its n ∧ its.size ≤ sizeLine ∧ Vals vs its.toList
def ObjR (K : PySem.W.Frag) (ι : List Addr) (H : Hp) (a : Addr) : Ob → Prop
  | .lst xs => ∃ vs, H a = some (.lst vs) ∧ RepL K ι H xs vs
  | .ro xs => ∃ vs, ((∃ o, H a = some (.frz o (.lst vs))) ∨ KL K a vs) ∧ RepL K ι H xs vs
structure HR (K : PySem.W.Frag) (ι : List Addr) (μ : Mu) (H : Hp) : Prop where
  nd : ∀ (l k : Nat) (a : Addr) (xs ys : List PV), μ[l]? = some (.lst xs) → μ[k]? = some (.lst ys) → ι[l]? = some a → ι[k]? = some a → l = k
  len : ι.length = μ.length
  obj : ∀ (l : Nat) (o : Ob) (a : Addr), μ[l]? = some o → ι[l]? = some a → ObjR K ι H a o
theorem HR.at_ {μ : Mu} (h : HR K ι μ H) {l : Nat} {o : Ob} (e : μ[l]? = some o) : ∃ a, ι[l]? = some a ∧ ObjR K ι H a o := by
  obtain ⟨hl, _⟩ := List.getElem?_eq_some_iff.mp e
  have h2 : l < ι.length := by rw [h.len]; exact hl
  exact ⟨ι[l], by rw [List.getElem?_eq_getElem h2], h.obj l o _ e (by rw [List.getElem?_eq_getElem h2])⟩
/-- slots -/
def SR1 (K : PySem.W.Frag) (ι : List Addr) (H : Hp) : Option PV → Option V → Prop
  | none, _ => True
  | some x, o => ∃ v, o = some v ∧ Rep K ι H x v
def SR (K : PySem.W.Frag) (ι : List Addr) (H : Hp) : Rho → L2.St → Prop
  | [], σ => σ = []
  | x :: ρ, σ => ∃ v r, σ = v :: r ∧ SR1 K ι H x v ∧ SR K ι H ρ r
theorem SR1.grow (g : Grow K ι H ι' H') {x : Option PV} {v : Option V} (h : SR1 K ι H x v) : SR1 K ι' H' x v := by
  cases x with
  | none => trivial
  | some x => obtain ⟨u, e, r⟩ := h; exact ⟨u, e, r.grow g⟩
theorem SR.grow (g : Grow K ι H ι' H') : ∀ {ρ : Rho} {σ : L2.St}, SR K ι H ρ σ → SR K ι' H' ρ σ
  | [], _, h => h
  | _ :: _, _, ⟨v, r, e, h1, h2⟩ => ⟨v, r, e, h1.grow g, SR.grow g h2⟩
theorem SR.get : ∀ {ρ : Rho} {σ : L2.St} {i : Nat} {x : PV}, SR K ι H ρ σ → ρ[i]? = some (some x) → ∃ v, σ[i]? = some (some v) ∧ Rep K ι H x v
  | [], _, _, _, _, e => by simp at e
  | _ :: _, _, 0, _, ⟨v, r, e, h, _⟩, q => by
    simp at q; subst q; subst e
    obtain ⟨u, e2, h2⟩ := h
    subst e2
    exact ⟨u, rfl, h2⟩
  | _ :: _, _, i + 1, x, ⟨v, r, e, _, h⟩, q => by
    subst e
    obtain ⟨u, h1, h2⟩ := SR.get (i := i) h (by simpa using q)
    exact ⟨u, by simpa using h1, h2⟩
theorem SR.set {y : PV} {u : V} (hy : Rep K ι H y u) : ∀ {ρ : Rho} {σ : L2.St} (i : Nat), SR K ι H ρ σ → SR K ι H (ρ.set i (some y)) (σ.set i (some u))
  | [], _, _, h => by rw [show _ = [] from h]; rfl
  | _ :: _, _, 0, ⟨v, r, e, _, t⟩ => by subst e; exact ⟨some u, r, rfl, ⟨u, rfl, hy⟩, t⟩
  | _ :: _, _, i + 1, ⟨v, r, e, h, t⟩ => by subst e; exact ⟨v, _, rfl, h, SR.set hy i t⟩
theorem SR.unset : ∀ {ρ : Rho} {σ : L2.St} (i : Nat) (o : Option V), SR K ι H ρ σ → SR K ι H (ρ.set i none) (σ.set i o)
  | [], _, _, _, h => by rw [show _ = [] from h]; rfl
  | _ :: _, _, 0, o, ⟨v, r, e, _, t⟩ => by subst e; exact ⟨o, r, rfl, trivial, t⟩
  | _ :: _, _, i + 1, o, ⟨v, r, e, h, t⟩ => by subst e; exact ⟨v, _, rfl, h, SR.unset i o t⟩
theorem SR.length : ∀ {ρ : Rho} {σ : L2.St}, SR K ι H ρ σ → σ.length = ρ.length
  | [], _, h => by rw [show _ = [] from h]; rfl
  | _ :: _, _, ⟨v, r, e, _, h⟩ => by rw [e, List.length_cons, List.length_cons, SR.length h]

/-! ### heap moves -/
theorem sqT_upd_new {p : Addr} {o : HO} (n : H p = none) {a : Addr} {vs : List V} (h : SqT K H a vs) : SqT K (upd H p o) a vs := by
  rcases h with (h | ⟨ob, h⟩) | h
  · exact .inl (.inl (by rw [upd_ne (ne_of_none h n)]; exact h))
  · exact .inl (.inr ⟨ob, by rw [upd_ne (ne_of_none h n)]; exact h⟩)
  · exact .inr h
theorem sqT_upd_lst {p : Addr} {o : HO} {us : List V} (n : H p = some (.lst us)) {a : Addr} {vs : List V} (h : SqT K H a vs) : SqT K (upd H p o) a vs := by
  rcases h with (h | ⟨ob, h⟩) | h
  · exact .inl (.inl (by rw [upd_ne (ne_of h n (by intro z; cases z))]; exact h))
  · exact .inl (.inr ⟨ob, by rw [upd_ne (ne_of h n (by intro z; cases z))]; exact h⟩)
  · exact .inr h
/-- a new tuple (or another thing that no location names) -/
theorem grow_new {p : Addr} {o : HO} (n : H p = none) : Grow K ι H ι (upd H p o) := ⟨List.prefix_refl _, fun _ _ h => sqT_upd_new n h, fun a u _ h => by rw [upd_ne (ne_of_none h n)]; exact h, fun _ h => .inl h⟩
theorem ObjR.grow {a : Addr} {ob : Ob} (g : Grow K ι H ι' H') (k : ∀ u, H a = some u → H' a = some u) (q : ObjR K ι H a ob) : ObjR K ι' H' a ob := by
  cases ob with
  | lst xs =>
    obtain ⟨vs, e, r⟩ := q
    exact ⟨vs, k _ e, r.grow g⟩
  | ro xs =>
    obtain ⟨vs, e, r⟩ := q
    refine ⟨vs, ?_, r.grow g⟩
    rcases e with ⟨o, e⟩ | e
    · exact .inl ⟨o, k _ e⟩
    · exact .inr e
theorem HR.new {μ : Mu} {p : Addr} {o : HO} (h : HR K ι μ H) (n : H p = none) : HR K ι μ (upd H p o) :=
  ⟨h.nd, h.len, fun l ob a e1 e2 => (h.obj l ob a e1 e2).grow (grow_new n) fun u e => by rw [upd_ne (ne_of_none e n)]; exact e⟩
/-- a new list -/
theorem grow_alloc {p : Addr} {o : HO} (n : H p = none) : Grow K ι H (ι ++ [p]) (upd H p o) := ⟨List.prefix_append _ _, fun _ _ h => sqT_upd_new n h, fun a u _ h => by rw [upd_ne (ne_of_none h n)]; exact h, fun q hq => by
  rcases List.mem_append.mp hq with z | z
  · exact .inl z
  · have e : q = p := by simpa using z
    subst e; exact .inr n⟩
theorem HR.alloc {μ : Mu} {p : Addr} {vs : List V} {xs : List PV} (h : HR K ι μ H) (n : H p = none) (r : RepL K ι H xs vs) : HR K (ι ++ [p]) (μ ++ [.lst xs]) (upd H p (.lst vs)) := by
  have g : Grow K ι H (ι ++ [p]) (upd H p (.lst vs)) := grow_alloc n
  have sp : ∀ (l : Nat) (ob : Ob) (a : Addr), (μ ++ [.lst xs])[l]? = some ob → (ι ++ [p])[l]? = some a → (l < μ.length ∧ μ[l]? = some ob ∧ ι[l]? = some a) ∨ (l = μ.length ∧ ob = .lst xs ∧ a = p) := by
    intro l ob a e1 e2
    by_cases hl : l < μ.length
    · rw [List.getElem?_append_left hl] at e1
      rw [List.getElem?_append_left (by rw [h.len]; exact hl)] at e2
      exact .inl ⟨hl, e1, e2⟩
    · have hl2 : l = μ.length := by
        obtain ⟨q, _⟩ := List.getElem?_eq_some_iff.mp e1
        rw [List.length_append] at q
        simp at q
        omega
      subst hl2
      rw [List.getElem?_append_right (Nat.le_refl _)] at e1
      rw [List.getElem?_append_right (by rw [h.len]; exact Nat.le_refl _), h.len] at e2
      simp at e1 e2
      exact .inr ⟨rfl, e1.symm, e2.symm⟩
  have np : ∀ (l : Nat) (ys : List PV), μ[l]? = some (.lst ys) → ι[l]? = some p → False := fun l ys e1 e2 => by
    obtain ⟨us, e, _⟩ := h.obj l _ p e1 e2
    rw [n] at e; cases e
  refine ⟨fun l k a ys zs e1 e2 e3 e4 => ?_, by rw [List.length_append, List.length_append, h.len]; rfl, fun l ob a e1 e2 => ?_⟩
  · rcases sp l _ a e1 e3 with ⟨a1, a2, a3⟩ | ⟨a1, a2, a3⟩ <;> rcases sp k _ a e2 e4 with ⟨b1, b2, b3⟩ | ⟨b1, b2, b3⟩
    · exact h.nd l k a ys zs a2 b2 a3 b3
    · subst b3; exact (np l ys a2 a3).elim
    · subst a3; exact (np k zs b2 b3).elim
    · rw [a1, b1]
  · rcases sp l ob a e1 e2 with ⟨a1, a2, a3⟩ | ⟨a1, a2, a3⟩
    · exact (h.obj l ob a a2 a3).grow g fun u e => by rw [upd_ne (ne_of_none e n)]; exact e
    · subst a2; subst a3
      exact ⟨vs, upd_same, r.grow g⟩
theorem alloc_ref {μ : Mu} {p : Addr} (h : HR K ι μ H) {H2 : Hp} : Rep K (ι ++ [p]) H2 (.ref μ.length) (.ref p) := by
  refine ⟨p, rfl, ?_⟩
  rw [← h.len]
  simp
/-- a list is rewritten -/
theorem grow_write {l : Nat} {p : Addr} {us vs : List V} (hp : ι[l]? = some p) (n : H p = some (.lst us)) : Grow K ι H ι (upd H p (.lst vs)) := ⟨List.prefix_refl _, fun _ _ h => sqT_upd_lst n h, fun a u hn h => by rw [upd_ne (fun z => hn (by rw [z]; exact List.mem_of_getElem? hp))]; exact h, fun _ h => .inl h⟩
theorem HR.write {μ : Mu} {l : Nat} {p : Addr} {us vs : List V} {xs us' : List PV} (h : HR K ι μ H) (hw : μ[l]? = some (.lst us')) (hp : ι[l]? = some p) (n : H p = some (.lst us)) (r : RepL K ι H xs vs) : HR K ι (μ.set l (.lst xs)) (upd H p (.lst vs)) := by
  have g : Grow K ι H ι (upd H p (.lst vs)) := grow_write hp n
  obtain ⟨hl, _⟩ := List.getElem?_eq_some_iff.mp hp
  have hlm : l < μ.length := by rw [← h.len]; exact hl
  refine ⟨fun k m a ys zs e1 e2 e3 e4 => ?_, by rw [List.length_set, h.len], fun k ob a e1 e2 => ?_⟩
  · by_cases hk : l = k <;> by_cases hm : l = m
    · rw [← hk, ← hm]
    · subst hk
      rw [List.getElem?_set_ne hm] at e2
      exact h.nd _ _ a us' zs hw e2 e3 e4
    · subst hm
      rw [List.getElem?_set_ne hk] at e1
      exact h.nd _ _ a ys us' e1 hw e3 e4
    · rw [List.getElem?_set_ne hk] at e1
      rw [List.getElem?_set_ne hm] at e2
      exact h.nd _ _ a ys zs e1 e2 e3 e4
  · by_cases hk : l = k
    · subst hk
      rw [hp] at e2; cases e2
      rw [List.getElem?_set_self hlm] at e1
      cases e1
      exact ⟨vs, upd_same, r.grow g⟩
    · rw [List.getElem?_set_ne hk] at e1
      have q := h.obj k ob a e1 e2
      cases ob with
      | lst ys =>
        have ne : a ≠ p := fun z => by
          subst z
          exact hk (h.nd _ _ a us' ys hw e1 hp e2)
        obtain ⟨ws, e, r⟩ := q
        exact ⟨ws, by rw [upd_ne ne]; exact e, r.grow g⟩
      | ro ys =>
        obtain ⟨ws, e, r⟩ := q
        refine ⟨ws, ?_, r.grow g⟩
        rcases e with ⟨o, e⟩ | e
        · exact .inl ⟨o, by rw [upd_ne (ne_of e n (by intro z; cases z))]; exact e⟩
        · exact .inr e
end

/-! ### lifting -/
abbrev WE := Ex → List Addr → Mu → Hp → Prop
def Post {α β : Type} (K : PySem.W.Frag) (W : WE) (Rr : List Addr → Hp → α → β → Prop) (ι : List Addr) (H : Hp) (r : R α) (Q : β → Hp → Prop) : Prop := match r with
  | .ok a μ' => ∀ v ι' H', Grow K ι H ι' H' → HR K ι' μ' H' → Rr ι' H' a v → Q v H'
  | .exc e μ' => ∀ ι' H', Grow K ι H ι' H' → HR K ι' μ' H' → W e ι' μ' H'
  | .bad => False
section
variable {α β γ δ : Type} {K : PySem.W.Frag} {W : WE} {Rr : List Addr → Hp → α → β → Prop} {Rg : List Addr → Hp → γ → δ → Prop} {ι ι1 : List Addr} {H H1 : Hp}
theorem Post.mono {r : R α} {Q Q' : β → Hp → Prop} (h : Post K W Rr ι H r Q) (m : ∀ v H', Q v H' → Q' v H') : Post K W Rr ι H r Q' := by
  cases r with
  | ok a μ => exact fun v ι' H' g hr rr => m v H' (h v ι' H' g hr rr)
  | exc e μ => exact h
  | bad => exact h
theorem Post.rebase {r : R α} {Q : β → Hp → Prop} (h : Post K W Rr ι H r Q) (g : Grow K ι H ι1 H1) : Post K W Rr ι1 H1 r Q := by
  cases r with
  | ok a μ => exact fun v ι' H' g' hr rr => h v ι' H' (g.trans g') hr rr
  | exc e μ => exact fun ι' H' g' hr => h ι' H' (g.trans g') hr
  | bad => exact h
theorem Post.bind {r : R α} {f : α → Mu → R γ} {Q : δ → Hp → Prop} (h : Post K W Rg ι H (r.bind f) Q) :
    Post K W Rr ι H r fun v H1 => ∃ a μ1 ι1, Grow K ι H ι1 H1 ∧ HR K ι1 μ1 H1 ∧ Rr ι1 H1 a v ∧ Post K W Rg ι1 H1 (f a μ1) Q := by
  cases r with
  | ok a μ => exact fun v ι' H' g hr rr => ⟨a, μ, ι', g, hr, rr, Post.rebase h g⟩
  | exc e μ => exact h
  | bad => exact h
theorem Post.ok {a : α} {μ : Mu} {v : β} {Q : β → Hp → Prop} (h : Post K W Rr ι H (.ok a μ) Q) (hr : HR K ι μ H) (rr : Rr ι H a v) : Q v H := h v ι H .refl hr rr
theorem Post.at_ {a : α} {μ : Mu} {v : β} {Q : β → Hp → Prop} (h : Post K W Rr ι H (.ok a μ) Q) (g : Grow K ι H ι1 H1) (hr : HR K ι1 μ H1) (rr : Rr ι1 H1 a v) : Q v H1 := h v ι1 H1 g hr rr
end
abbrev Dn (α : Type) := Rho → Mu → R α
abbrev WS := L2.St → WE
def lift {α β : Type} (K : PySem.W.Frag) (W : WS) (Rr : List Addr → Hp → α → β → Prop) (d : Dn α) : L2.St → Hp → (β → Hp → Prop) → Prop := fun σ H Q =>
  ∃ ρ μ ι, SR K ι H ρ σ ∧ HR K ι μ H ∧ Post K (W σ) Rr ι H (d ρ μ) Q
abbrev LE (K : PySem.W.Frag) (W : WS) (d : Dn PV) : TE := lift K W (fun ι H => Rep K ι H) d
abbrev LA (K : PySem.W.Frag) (W : WS) (d : Dn (List PV)) : TA := lift K W (fun ι H => RepL K ι H) d
abbrev LT (K : PySem.W.Frag) (W : WS) (d : Dn Bool) : TT := lift K W (fun _ _ a b => a = b) d

section
variable {X : Cx}
theorem _root_.L2.PE.mono {e : Expr} {t t' : TE} (h : PE X e t) (m : ∀ σ H Q, t' σ H Q → t σ H Q) : PE X e t' := ⟨fun pins s σ H Q I q => h.run pins s σ H Q I (m _ _ _ q)⟩
theorem _root_.L2.PT.mono {e : Expr} {t t' : TT} (h : PT X e t) (m : ∀ σ H Q, t' σ H Q → t σ H Q) : PT X e t' := ⟨fun pins s σ H Q I q => h.run pins s σ H Q I (m _ _ _ q)⟩
theorem _root_.L2.PW.mono {e : Expr} {t t' : TT} (h : PW X e t) (m : ∀ σ H Q, t' σ H Q → t σ H Q) : PW X e t' := ⟨fun wh pins s σ H Q I q => h.run wh pins s σ H Q I (m _ _ _ q)⟩
theorem _root_.L2.PA.mono {es : List Expr} {t t' : TA} (h : PA X es t) (m : ∀ σ H Q, t' σ H Q → t σ H Q) : PA X es t' := ⟨fun p pins s σ H Q I q => h.run p pins s σ H Q I (m _ _ _ q)⟩
theorem _root_.L2.PS.mono {st : Stmt} {t t' : TS} (h : PS X st t) (m : ∀ D σ H, t' D σ H → t D σ H) : PS X st t' := ⟨fun pins s σ H D I q => h.run pins s σ H D I (m _ _ _ q)⟩
theorem _root_.L2.PSs.mono {st : List Stmt} {t t' : TS} (h : PSs X st t) (m : ∀ D σ H, t' D σ H → t D σ H) : PSs X st t' := ⟨fun pins s σ H D I q => h.run pins s σ H D I (m _ _ _ q)⟩
theorem _root_.L2.PTs.mono {st : List Expr} {t t' : TT} (h : PTs X st t) (m : ∀ σ H Q, t' σ H Q → t σ H Q) : PTs X st t' := ⟨fun pins s σ H Q I q => h.run pins s σ H Q I (m _ _ _ q)⟩
theorem _root_.L2.PG.mono {e : Expr} {t t' : TG} (h : PG X e t) (m : ∀ v σ H Q, t' v σ H Q → t v σ H Q) : PG X e t' := by
  obtain ⟨h⟩ := h
  constructor
  intros
  first | (apply h <;> first | assumption | (apply m; assumption)) | skip
end
end GB
set_option Elab.async false
set_option linter.all false
set_option maxRecDepth 100000
set_option maxHeartbeats 2000000
namespace GB
open PySem PySem.Spec PyProof.Rows L2
/-! ### expressions: denotations -/
def dVar (i : Nat) : Dn PV := fun ρ μ => match ρ[i]? with
  | some (some v) => .ok v μ
  | _ => .bad
def dC (v : PV) : Dn PV := fun _ μ => .ok v μ
def dNil : Dn (List PV) := fun _ μ => .ok [] μ
def dCons (a : Dn PV) (r : Dn (List PV)) : Dn (List PV) := fun ρ μ => (a ρ μ).bind fun x μ => (r ρ μ).bind fun xs μ => .ok (x :: xs) μ
def line : Nat := 16777216
theorem line_eq : line = sizeLine := by rw [sizeLine_eq]; rfl
def dTup (a : Dn (List PV)) : Dn PV := fun ρ μ => (a ρ μ).bind fun xs μ => if xs.length ≤ 16777216 then .ok (.tup xs) μ else .bad
def dLst (a : Dn (List PV)) : Dn PV := fun ρ μ => (a ρ μ).bind fun xs μ => if xs.length ≤ 16777216 then .ok (.ref μ.length) (μ ++ [.lst xs]) else .bad
def dOp (f : PV → PV → Mu → R PV) (a b : Dn PV) : Dn PV := fun ρ μ => (a ρ μ).bind fun x μ => (b ρ μ).bind fun y μ => f x y μ
def dUn (f : PV → Mu → R PV) (a : Dn PV) : Dn PV := fun ρ μ => (a ρ μ).bind fun x μ => f x μ
def dApp (f : List PV → Mu → R PV) (a : Dn (List PV)) : Dn PV := fun ρ μ => (a ρ μ).bind fun xs μ => f xs μ
def asB (d : Dn PV) : Dn Bool := fun ρ μ => (d ρ μ).bind fun v μ => match v with
  | .bl k => .ok k μ
  | _ => .bad
/-- the list at a location -/
def getL (μ : Mu) (l : Nat) : Option (List PV) := match μ[l]? with
  | some (.lst xs) => some xs
  | some (.ro xs) => some xs
  | none => none
/-- the list that may be written -/
def getM (μ : Mu) (l : Nat) : Option (List PV) := match μ[l]? with
  | some (.lst xs) => some xs
  | _ => none
def fTru (x : PV) (μ : Mu) : Option Bool := match x with
  | .non => some false
  | .bl b => some b
  | .int i => some (i != 0)
  | .str y => if y.length ≤ 16777216 then some ((y.length : Int) != 0) else none
  | .tup xs => some (!xs.isEmpty)
  | .ref l => (getL μ l).map fun xs => !xs.isEmpty
  | .raw _ => none
def dTru (d : Dn PV) : Dn Bool := fun ρ μ => (d ρ μ).bind fun v μ => match fTru v μ with
  | some k => .ok k μ
  | none => .bad
def dOr (a b : Dn PV) : Dn PV := fun ρ μ => (a ρ μ).bind fun x μ => match fTru x μ with
  | some true => .ok x μ
  | some false => b ρ μ
  | none => .bad
def dAnd (a b : Dn PV) : Dn PV := fun ρ μ => (a ρ μ).bind fun x μ => match fTru x μ with
  | some true => b ρ μ
  | some false => .ok x μ
  | none => .bad
def dNot (a : Dn PV) : Dn PV := fun ρ μ => (a ρ μ).bind fun x μ => match fTru x μ with
  | some k => .ok (.bl (!k)) μ
  | none => .bad
def dAndB (a b : Dn Bool) : Dn Bool := fun ρ μ => (a ρ μ).bind fun k μ => if k = true then b ρ μ else .ok false μ
def dOrB (a b : Dn Bool) : Dn Bool := fun ρ μ => (a ρ μ).bind fun k μ => if k = true then .ok true μ else b ρ μ
def dNotB (a : Dn Bool) : Dn Bool := fun ρ μ => (a ρ μ).bind fun k μ => .ok (!k) μ
def dIf (t : Dn Bool) (a b : Dn PV) : Dn PV := fun ρ μ => (t ρ μ).bind fun k μ => if k = true then a ρ μ else b ρ μ

/-! ### operators by values -/
def bits64 : Nat := 18446744073709551616
def mulOk (i j : Int) : Bool := Nat.blt i.natAbs 18446744073709551616 || Nat.blt j.natAbs 18446744073709551616 || Nat.blt (i.natAbs.log2 + j.natAbs.log2) 134000000
def fAdd (x y : PV) (μ : Mu) : R PV := match x, y with
  | .int i, .int j => .ok (.int (i + j)) μ
  | .str a, .str b => if a.length + b.length ≤ 16777216 then .ok (.str (a ++ b)) μ else .bad
  | .tup a, .tup b => if !a.isEmpty && decide (a.length + b.length ≤ 16777216) then .ok (.tup (a ++ b)) μ else .bad
  | .ref l, .ref m => match getM μ l, getM μ m with
    | some a, some b => if a.length + b.length ≤ 16777216 then .ok (.ref μ.length) (μ ++ [.lst (a ++ b)]) else .bad
    | _, _ => .bad
  | _, _ => .bad
def fSub (x y : PV) (μ : Mu) : R PV := match x, y with
  | .int i, .int j => .ok (.int (i - j)) μ
  | _, _ => .bad
def fMulI (x y : PV) (μ : Mu) : R PV := match x, y with
  | .int i, .int j => if mulOk i j then .ok (.int (i * j)) μ else .bad
  | _, _ => .bad
def fDiv (x y : PV) (μ : Mu) : R PV := match x, y with
  | .int i, .int j => if decide (0 < j) && Nat.blt j.natAbs.log2 9000 then .ok (.int (i / j)) μ else .bad
  | _, _ => .bad
def fMod (x y : PV) (μ : Mu) : R PV := match x, y with
  | .int i, .int j => if 0 < j then .ok (.int (i % j)) μ else .bad
  | _, _ => .bad
def fPow (x y : PV) (μ : Mu) : R PV := match x, y with
  | .int i, .int j => if decide (0 ≤ j) && decide (j ≤ 1000000) && Nat.blt i.natAbs 18446744073709551616 then .ok (.int (i ^ j.toNat)) μ else .bad
  | _, _ => .bad
def fNeg (x : PV) (μ : Mu) : R PV := match x with
  | .int i => .ok (.int (-i)) μ
  | _ => .bad
def fCmp (p : Int → Int → Bool) (x y : PV) (μ : Mu) : R PV := match x, y with
  | .int i, .int j => .ok (.bl (p i j)) μ
  | _, _ => .bad
abbrev fLt := fCmp fun i j => decide (i < j)
abbrev fLe := fCmp fun i j => decide (i ≤ j)
abbrev fGt := fCmp fun i j => decide (j < i)
abbrev fGe := fCmp fun i j => decide (j ≤ i)
mutual
def toD (μ : Mu) : Nat → PV → Option PyData
  | 0, _ => none
  | _ + 1, .non => some .none
  | _ + 1, .bl b => some (.bool b)
  | _ + 1, .int i => some (.int i)
  | _ + 1, .str x => some (.str x)
  | n + 1, .tup xs => (toDL μ n xs).map .tuple
  | n + 1, .ref l => (getL μ l).bind fun xs => (toDL μ n xs).map .list
  | _ + 1, .raw _ => none
def toDL (μ : Mu) : Nat → List PV → Option (List PyData)
  | 0, _ => none
  | _ + 1, [] => some []
  | n + 1, x :: xs => (toD μ n x).bind fun d => (toDL μ n xs).map fun ds => d :: ds
end
def eqB (x y : PV) (μ : Mu) : Option Bool := match x, y with
  | .int i, .int j => some (decide (i = j))
  | .bl i, .bl j => some (i == j)
  | .non, .non => some true
  | .int _, .non => some false
  | .non, .int _ => some false
  | x, y => match toD μ 1000 x, toD μ 1000 y with
    | some d, some e => if SeqAt.shaped d && SeqAt.shaped e then some (PyData.eqv d e) else none
    | _, _ => none
def fEq (x y : PV) (μ : Mu) : R PV := match eqB x y μ with
  | some k => .ok (.bl k) μ
  | none => .bad
def fNe (x y : PV) (μ : Mu) : R PV := match eqB x y μ with
  | some k => .ok (.bl (!k)) μ
  | none => .bad
def fIsN (x : PV) (μ : Mu) : R PV := match x with
  | .non => .ok (.bl true) μ
  | .raw _ => .bad
  | _ => .ok (.bl false) μ
def fNotN (x : PV) (μ : Mu) : R PV := match x with
  | .non => .ok (.bl false) μ
  | .raw _ => .bad
  | _ => .ok (.bl true) μ
def fIx (x y : PV) (μ : Mu) : R PV := match x, y with
  | .tup xs, .int i => match atI xs i with
    | some v => .ok v μ
    | none => .bad
  | .ref l, .int i => match (getL μ l).bind fun xs => atI xs i with
    | some v => .ok v μ
    | none => .bad
  | .str z, .int i => if z.length ≤ 16777216 then (match atI z.cps.toList i with
    | some c => .ok (.str ⟨#[c]⟩) μ
    | none => .bad) else .bad
  | _, _ => .bad

/-! ### lists read -/
section
variable {K : PySem.W.Frag} {W : WE} {ι : List Addr} {μ : Mu} {H : Hp} {l : Nat} {xs : List PV}
theorem getL_sq (h : HR K ι μ H) (e : getL μ l = some xs) : ∃ a vs, ι[l]? = some a ∧ SqL K H a vs ∧ RepL K ι H xs vs ∧ ((H a = some (.lst vs)) ∨ (∃ o, H a = some (.frz o (.lst vs))) ∨ KL K a vs) := by
  unfold getL at e
  cases q : μ[l]? with
  | none => rw [q] at e; cases e
  | some o =>
    rw [q] at e
    obtain ⟨a, h1, h2⟩ := h.at_ q
    cases o with
    | lst ys =>
      cases e
      obtain ⟨vs, e, r⟩ := h2
      exact ⟨a, vs, h1, .of e, r, .inl e⟩
    | ro ys =>
      cases e
      obtain ⟨vs, e, r⟩ := h2
      rcases e with ⟨w, e⟩ | e
      · exact ⟨a, vs, h1, .inl (.inr ⟨w, e⟩), r, .inr (.inl ⟨w, e⟩)⟩
      · exact ⟨a, vs, h1, .inr e, r, .inr (.inr e)⟩
theorem getM_of (e : getM μ l = some xs) : μ[l]? = some (.lst xs) := by
  unfold getM at e
  cases q : μ[l]? with
  | none => rw [q] at e; cases e
  | some o =>
    rw [q] at e
    cases o with
    | lst ys => cases e; rfl
    | ro ys => cases e
theorem getM_at (h : HR K ι μ H) (e : getM μ l = some xs) : ∃ a vs, ι[l]? = some a ∧ H a = some (.lst vs) ∧ RepL K ι H xs vs := by
  obtain ⟨a, h1, vs, h2, h3⟩ := h.at_ (getM_of e)
  exact ⟨a, vs, h1, h2, h3⟩
theorem atI_rep {K : PySem.W.Frag} {ι : List Addr} {H : Hp} {xs : List PV} {vs : List V} {i : Int} {x : PV} (r : RepL K ι H xs vs) (e : atI xs i = some x) : ∃ v, atI vs i = some v ∧ Rep K ι H x v := by
  unfold atI at e ⊢
  rw [r.length]
  cases q : ixN xs.length i with
  | none => rw [q] at e; cases e
  | some j =>
    rw [q] at e
    have e' : xs[j]? = some x := e
    obtain ⟨v, h1, h2⟩ := r.get e'
    exact ⟨v, h1, h2⟩
theorem ref_eq {l : Nat} {v : V} {a : Addr} (h : Rep K ι H (.ref l) v) (e : ι[l]? = some a) : v = .ref a := by
  obtain ⟨b, h1, h2⟩ := h
  rw [e] at h2
  cases h2
  exact h1
theorem tru_of {x : PV} {v : V} {k : Bool} (h : HR K ι μ H) (r : Rep K ι H x v) (e : fTru x μ = some k) : TruV K v H k := by
  cases x with
  | non => cases r; cases e; rfl
  | bl b => cases r; cases e; rfl
  | int i => cases r; cases e; rfl
  | str y =>
    cases r
    unfold fTru at e
    simp only at e
    split at e
    · rename_i hy
      cases e
      exact ⟨by rw [← line_eq]; exact hy, rfl⟩
    · cases e
  | tup ys =>
    obtain ⟨a, vs, rfl, s, r⟩ := r
    cases e
    refine .inr (.inl ⟨vs, s, ?_⟩)
    have := r.length
    cases vs <;> cases ys <;> simp_all
  | ref l =>
    unfold fTru at e
    simp only at e
    cases q : getL μ l with
    | none => rw [q] at e; cases e
    | some ys =>
      rw [q] at e
      cases e
      obtain ⟨a, vs, h1, h2, h3, _⟩ := getL_sq h q
      obtain rfl := ref_eq r h1
      refine .inl ⟨vs, h2, ?_⟩
      have := h3.length
      cases vs <;> cases ys <;> simp_all
  | raw u => cases e
end

/-! ### rules -/
section
variable {X : Cx} {W : WS} {a b : Expr} {da db dc : Dn PV} {es : List Expr} {dl : Dn (List PV)} {pos : Pos} {rest : List Expr}
theorem e_var (i : Nat) {x : Str} (hN : X.N[i]? = some x := by rfl) (hv : Vis X.env.scope x := by first | exact Or.inl rfl | exact Or.inr (Or.inl rfl) | exact Or.inr (Or.inr rfl)) (hd : (x == ("__debug__" : Str)) = false := by decide)
    (hcd : (x == ("__classdict__" : Str)) = false := by decide) : PE X (.Name x pos) (LE X.K W (dVar i)) := by
  refine (pe_var hN hv hd hcd).mono fun σ H Q ⟨ρ, μ, ι, sr, hr, h⟩ => ?_
  unfold dVar at h
  split at h
  · rename_i v e
    obtain ⟨u, h1, h2⟩ := sr.get e
    exact ⟨u, h1, h.ok hr h2⟩
  · exact h.elim
theorem e_int {i : Int} {j} : PE X (.Constant (.int i) j pos) (LE X.K W (dC (.int i))) := pe_int.mono fun σ H Q ⟨ρ, μ, ι, sr, hr, h⟩ => h.ok hr rfl
theorem e_bl {b : Bool} {j} : PE X (.Constant (.bool b) j pos) (LE X.K W (dC (.bl b))) := pe_bl.mono fun σ H Q ⟨ρ, μ, ι, sr, hr, h⟩ => h.ok hr rfl
theorem e_non {j} : PE X (.Constant .none j pos) (LE X.K W (dC .non)) := pe_non.mono fun σ H Q ⟨ρ, μ, ι, sr, hr, h⟩ => h.ok hr rfl
theorem e_str {x : Str} {j} : PE X (.Constant (.str x) j pos) (LE X.K W (dC (.str x))) := pe_str.mono fun σ H Q ⟨ρ, μ, ι, sr, hr, h⟩ => h.ok hr rfl
/-- a module's int -/
theorem e_globI {x : Str} {i : Int} {t : Tok} (hg : Gl X x) (hm : X.mg x = some (.int i t)) (hd : (x == ("__debug__" : Str)) = false := by decide) : PE X (.Name x pos) (LE X.K W (dC (.int i))) :=
  (pe_glob (v := .int i) hg hm ⟨t, rfl⟩ hd).mono fun σ H Q ⟨ρ, μ, ι, sr, hr, h⟩ => h.ok hr rfl
theorem e_globS {x y : Str} {t : Tok} (hg : Gl X x) (hm : X.mg x = some (.str y t)) (hd : (x == ("__debug__" : Str)) = false := by decide) : PE X (.Name x pos) (LE X.K W (dC (.str y))) :=
  (pe_glob (v := .str y) hg hm ⟨t, rfl⟩ hd).mono fun σ H Q ⟨ρ, μ, ι, sr, hr, h⟩ => h.ok hr rfl
/-- a built-in type as a value -/
theorem e_ty {x : Str} {T : String} (hg : Gl X x) (hm : X.mg x = none) (hv : bootBuiltins x = some (.type T)) (hn : x ≠ "__name__" := by decide) (hd : (x == ("__debug__" : Str)) = false := by decide) : PE X (.Name x pos) (LE X.K W (dC (.raw (.ty T)))) :=
  (pe_bltn (v := .ty T) hg hm hv rfl hn hd).mono fun σ H Q ⟨ρ, μ, ι, sr, hr, h⟩ => h.ok hr rfl
theorem a_nil : PA X [] (LA X.K W dNil) := pa_nil.mono fun σ H Q ⟨ρ, μ, ι, sr, hr, h⟩ => h.ok hr RepL.nil_
theorem a_cons (ha : PE X a (LE X.K W da)) (hr : PA X es (LA X.K W dl)) (hs : starEach (a :: es) X.env = (false, eval a X.env) :: starEach es X.env := by rfl) : PA X (a :: es) (LA X.K W (dCons da dl)) := by
  refine (pa_cons ha hr hs).mono fun σ H Q ⟨ρ, μ, ι, sr, hr, h⟩ => ?_
  refine ⟨ρ, μ, ι, sr, hr, Post.mono (Post.bind h) ?_⟩
  rintro v H1 ⟨x, μ1, ι1, g1, hr1, r1, h1⟩
  refine ⟨ρ, μ1, ι1, sr.grow g1, hr1, Post.mono (Post.bind h1) ?_⟩
  rintro u H2 ⟨y, μ2, ι2, g2, hr2, r2, h2⟩
  exact h2.ok hr2 (.cons_ (r1.grow g2) r2)
theorem e_tup {x1} (h : PA X es (LA X.K W dl)) : PE X (.Tuple es x1 pos) (LE X.K W (dTup dl)) := by
  refine (pe_tup h).mono fun σ H Q ⟨ρ, μ, ι, sr, hr, h⟩ => ?_
  refine ⟨ρ, μ, ι, sr, hr, Post.mono (Post.bind h) ?_⟩
  rintro vs H1 ⟨xs, μ1, ι1, g1, hr1, r1, h1⟩
  split at h1
  · rename_i hz
    refine ⟨by rw [r1.length, ← line_eq]; exact hz, fun p hp => ?_⟩
    have g : Grow X.K ι1 H1 ι1 (upd H1 p (.tup vs)) := grow_new hp
    exact h1.at_ g (hr1.new hp) ⟨p, vs, rfl, .of upd_same, r1.grow g⟩
  · exact h1.elim
theorem e_lst (h : PA X es (LA X.K W dl)) : PE X (.List es pos) (LE X.K W (dLst dl)) := by
  refine (pe_lst h).mono fun σ H Q ⟨ρ, μ, ι, sr, hr, h⟩ => ?_
  refine ⟨ρ, μ, ι, sr, hr, Post.mono (Post.bind h) ?_⟩
  rintro vs H1 ⟨xs, μ1, ι1, g1, hr1, r1, h1⟩
  split at h1
  · rename_i hz
    refine ⟨by rw [r1.length, ← line_eq]; exact hz, fun p hp => ?_⟩
    exact h1.at_ (grow_alloc hp) (hr1.alloc hp r1) (alloc_ref hr1)
  · exact h1.elim

/-- an operation by values, told over my values -/
def OpL (K : PySem.W.Frag) (f : PV → PV → Mu → R PV) (r : R2) : Prop := ∀ (W : WE) ι μ H a b x y Q, HR K ι μ H → Rep K ι H a x → Rep K ι H b y → Post K W (fun ι H => Rep K ι H) ι H (f a b μ) Q → r x y H Q
def UnL (K : PySem.W.Frag) (f : PV → Mu → R PV) (r : V → Hp → VK → Prop) : Prop := ∀ (W : WE) ι μ H a x Q, HR K ι μ H → Rep K ι H a x → Post K W (fun ι H => Rep K ι H) ι H (f a μ) Q → r x H Q
def ApL (K : PySem.W.Frag) (f : List PV → Mu → R PV) (r : List V → Hp → VK → Prop) : Prop := ∀ (W : WE) ι μ H as xs Q, HR K ι μ H → RepL K ι H as xs → Post K W (fun ι H => Rep K ι H) ι H (f as μ) Q → r xs H Q
theorem lift_op {K : PySem.W.Frag} {f : PV → PV → Mu → R PV} {r : R2} (hl : OpL K f r) {σ : L2.St} {H : Hp} {Q : VK} (h : LE K W (dOp f da db) σ H Q) : tOp r (LE K W da) (LE K W db) σ H Q := by
  obtain ⟨ρ, μ, ι, sr, hr, h⟩ := h
  refine ⟨ρ, μ, ι, sr, hr, Post.mono (Post.bind h) ?_⟩
  rintro v H1 ⟨x, μ1, ι1, g1, hr1, r1, h1⟩
  refine ⟨ρ, μ1, ι1, sr.grow g1, hr1, Post.mono (Post.bind h1) ?_⟩
  rintro u H2 ⟨y, μ2, ι2, g2, hr2, r2, h2⟩
  exact hl _ _ _ _ _ _ _ _ _ hr2 (r1.grow g2) r2 h2
theorem e_op {op : Operator} {f : PV → PV → Mu → R PV} {r : R2} (ho : OpR X (binaryOp op) r) (hl : OpL X.K f r) (ha : PE X a (LE X.K W da)) (hb : PE X b (LE X.K W db)) : PE X (.BinOp a op b pos) (LE X.K W (dOp f da db)) :=
  (pe_op ho ha hb).mono fun σ H Q h => lift_op hl h
theorem e_un {op : UnaryOp} {f : PV → Mu → R PV} {r : V → Hp → VK → Prop} (ho : UnR X (unaryOp op) r) (hl : UnL X.K f r) (ha : PE X a (LE X.K W da)) : PE X (.UnaryOp op a pos) (LE X.K W (dUn f da)) := by
  refine (pe_un ho ha).mono fun σ H Q ⟨ρ, μ, ι, sr, hr, h⟩ => ?_
  refine ⟨ρ, μ, ι, sr, hr, Post.mono (Post.bind h) ?_⟩
  rintro v H1 ⟨x, μ1, ι1, g1, hr1, r1, h1⟩
  exact hl _ _ _ _ _ _ _ hr1 r1 h1
theorem e_cmp {op : CmpOp} {f : PV → PV → Mu → R PV} {r : R2} (ho : OpR X (compareOp op) r) (hl : OpL X.K f r) (ha : PE X a (LE X.K W da)) (hb : PE X b (LE X.K W db)) (hm : behindInMarks op b = false) : PE X (.Compare a [op] [b] pos) (LE X.K W (dOp f da db)) :=
  (pe_cmpR ho ha hb hm).mono fun σ H Q h => lift_op hl h
theorem asB_bind {K : PySem.W.Frag} {W : WE} {ι : List Addr} {H : Hp} {r : R PV} {Q : Bool → Hp → Prop}
    (h : Post K W (fun _ _ a b => a = b) ι H (r.bind fun v μ => match v with | .bl k => .ok k μ | _ => .bad) Q) :
    Post K W (fun ι H => Rep K ι H) ι H r fun x H' => ∃ k, x = .bl k ∧ Q k H' := by
  refine Post.mono (Post.bind h) ?_
  rintro v H1 ⟨x, μ1, ι1, g1, hr1, r1, h1⟩
  cases x with
  | bl k => exact ⟨k, r1, h1.ok hr1 rfl⟩
  | _ => exact h1.elim
theorem dOp_eq {f : PV → PV → Mu → R PV} {ρ : Rho} {μ : Mu} {γ : Type} (k : PV → Mu → R γ) : (dOp f da db ρ μ).bind k = (da ρ μ).bind fun x μ => (db ρ μ).bind fun y μ => (f x y μ).bind k := by
  unfold dOp
  cases da ρ μ with
  | ok x μ1 =>
    simp only [R.bind_ok]
    cases db ρ μ1 <;> rfl
  | exc e μ1 => rfl
  | bad => rfl
theorem t_cmp {op : CmpOp} {f : PV → PV → Mu → R PV} {r : R2} (ho : OpR X (compareOp op) r) (hl : OpL X.K f r) (ha : PE X a (LE X.K W da)) (hb : PE X b (LE X.K W db)) (hm : behindInMarks op b = false) : PT X (.Compare a [op] [b] pos) (LT X.K W (asB (dOp f da db))) := by
  refine (pt_cmpR ho ha hb hm).mono fun σ H Q ⟨ρ, μ, ι, sr, hr, h⟩ => ?_
  have h' := asB_bind h
  exact lift_op hl ⟨ρ, μ, ι, sr, hr, h'⟩
theorem t_val (ha : PE X a (LE X.K W da)) (he : ∀ whole, isTrue a X.env whole = (do let v ← whole; standAt a.pos; holding [v] (truthy v)) := by intro _; rfl) : PT X a (LT X.K W (asB da)) := by
  refine (pt_val ha he).mono fun σ H Q ⟨ρ, μ, ι, sr, hr, h⟩ => ?_
  exact ⟨ρ, μ, ι, sr, hr, asB_bind h⟩
theorem t_truth (ha : PE X a (LE X.K W da)) (he : ∀ whole, isTrue a X.env whole = (do let v ← whole; standAt a.pos; holding [v] (truthy v)) := by intro _; rfl) : PT X a (LT X.K W (dTru da)) := by
  refine (pt_truth ha he).mono fun σ H Q ⟨ρ, μ, ι, sr, hr, h⟩ => ?_
  refine ⟨ρ, μ, ι, sr, hr, Post.mono (Post.bind h) ?_⟩
  rintro v H1 ⟨x, μ1, ι1, g1, hr1, r1, h1⟩
  cases e : fTru x μ1 with
  | none => rw [e] at h1; exact h1.elim
  | some k => rw [e] at h1; exact ⟨k, tru_of hr1 r1 e, h1.ok hr1 rfl⟩
theorem e_one {op} (h : PE X a (LE X.K W da)) : PE X (.BoolOp op [a] pos) (LE X.K W da) := pe_one h
theorem e_or (ha : PE X a (LE X.K W da)) (hb : PE X (.BoolOp .Or (b :: rest) pos) (LE X.K W db)) : PE X (.BoolOp .Or (a :: b :: rest) pos) (LE X.K W (dOr da db)) := by
  refine (pe_orT ha hb).mono fun σ H Q ⟨ρ, μ, ι, sr, hr, h⟩ => ?_
  refine ⟨ρ, μ, ι, sr, hr, Post.mono (Post.bind h) ?_⟩
  rintro v H1 ⟨x, μ1, ι1, g1, hr1, r1, h1⟩
  cases e : fTru x μ1 with
  | none => rw [e] at h1; exact h1.elim
  | some k =>
    rw [e] at h1
    refine ⟨k, tru_of hr1 r1 e, ?_⟩
    cases k with
    | true => rw [if_pos rfl]; exact h1.ok hr1 r1
    | false => rw [if_neg Bool.false_ne_true]; exact ⟨ρ, μ1, ι1, sr.grow g1, hr1, h1⟩
theorem e_and (ha : PE X a (LE X.K W da)) (hb : PE X (.BoolOp .And (b :: rest) pos) (LE X.K W db)) : PE X (.BoolOp .And (a :: b :: rest) pos) (LE X.K W (dAnd da db)) := by
  refine (pe_andT ha hb).mono fun σ H Q ⟨ρ, μ, ι, sr, hr, h⟩ => ?_
  refine ⟨ρ, μ, ι, sr, hr, Post.mono (Post.bind h) ?_⟩
  rintro v H1 ⟨x, μ1, ι1, g1, hr1, r1, h1⟩
  cases e : fTru x μ1 with
  | none => rw [e] at h1; exact h1.elim
  | some k =>
    rw [e] at h1
    refine ⟨k, tru_of hr1 r1 e, ?_⟩
    cases k with
    | true => rw [if_pos rfl]; exact ⟨ρ, μ1, ι1, sr.grow g1, hr1, h1⟩
    | false => rw [if_neg Bool.false_ne_true]; exact h1.ok hr1 r1
theorem e_not (ha : PE X a (LE X.K W da)) : PE X (.UnaryOp .Not a pos) (LE X.K W (dNot da)) := by
  refine (pe_notT ha).mono fun σ H Q ⟨ρ, μ, ι, sr, hr, h⟩ => ?_
  refine ⟨ρ, μ, ι, sr, hr, Post.mono (Post.bind h) ?_⟩
  rintro v H1 ⟨x, μ1, ι1, g1, hr1, r1, h1⟩
  cases e : fTru x μ1 with
  | none => rw [e] at h1; exact h1.elim
  | some k => rw [e] at h1; exact ⟨k, tru_of hr1 r1 e, h1.ok hr1 rfl⟩
section
variable {ba bb : Dn Bool}
theorem w_and1 (ha : PT X a (LT X.K W ba)) : PW X (.BoolOp .And [a] pos) (LT X.K W ba) := pw_and1 ha
theorem w_or1 (ha : PT X a (LT X.K W ba)) : PW X (.BoolOp .Or [a] pos) (LT X.K W ba) := pw_or1 ha
theorem w_and (ha : PT X a (LT X.K W ba)) (hb : PW X (.BoolOp .And (b :: rest) pos) (LT X.K W bb)) : PW X (.BoolOp .And (a :: b :: rest) pos) (LT X.K W (dAndB ba bb)) := by
  refine (pw_and ha hb).mono fun σ H Q ⟨ρ, μ, ι, sr, hr, h⟩ => ?_
  refine ⟨ρ, μ, ι, sr, hr, Post.mono (Post.bind h) ?_⟩
  rintro v H1 ⟨x, μ1, ι1, g1, hr1, rfl, h1⟩
  cases x with
  | true => rw [if_pos rfl] at h1 ⊢; exact ⟨ρ, μ1, ι1, sr.grow g1, hr1, h1⟩
  | false => rw [if_neg Bool.false_ne_true] at h1 ⊢; exact h1.ok hr1 rfl
theorem w_or (ha : PT X a (LT X.K W ba)) (hb : PW X (.BoolOp .Or (b :: rest) pos) (LT X.K W bb)) : PW X (.BoolOp .Or (a :: b :: rest) pos) (LT X.K W (dOrB ba bb)) := by
  refine (pw_or ha hb).mono fun σ H Q ⟨ρ, μ, ι, sr, hr, h⟩ => ?_
  refine ⟨ρ, μ, ι, sr, hr, Post.mono (Post.bind h) ?_⟩
  rintro v H1 ⟨x, μ1, ι1, g1, hr1, rfl, h1⟩
  cases x with
  | true => rw [if_pos rfl] at h1 ⊢; exact h1.ok hr1 rfl
  | false => rw [if_neg Bool.false_ne_true] at h1 ⊢; exact ⟨ρ, μ1, ι1, sr.grow g1, hr1, h1⟩
theorem t_not (ha : PT X a (LT X.K W ba)) : PT X (.UnaryOp .Not a pos) (LT X.K W (dNotB ba)) := by
  refine (pt_not ha).mono fun σ H Q ⟨ρ, μ, ι, sr, hr, h⟩ => ?_
  refine ⟨ρ, μ, ι, sr, hr, Post.mono (Post.bind h) ?_⟩
  rintro v H1 ⟨x, μ1, ι1, g1, hr1, rfl, h1⟩
  exact h1.ok hr1 rfl
theorem e_if {c : Expr} (hc : PT X c (LT X.K W ba)) (ha : PE X a (LE X.K W da)) (hb : PE X b (LE X.K W db)) : PE X (.IfExp c a b pos) (LE X.K W (dIf ba da db)) := by
  refine (pe_ifExp hc ha hb).mono fun σ H Q ⟨ρ, μ, ι, sr, hr, h⟩ => ?_
  refine ⟨ρ, μ, ι, sr, hr, Post.mono (Post.bind h) ?_⟩
  rintro v H1 ⟨x, μ1, ι1, g1, hr1, rfl, h1⟩
  cases x with
  | true => rw [if_pos rfl] at h1 ⊢; exact ⟨ρ, μ1, ι1, sr.grow g1, hr1, h1⟩
  | false => rw [if_neg Bool.false_ne_true] at h1 ⊢; exact ⟨ρ, μ1, ι1, sr.grow g1, hr1, h1⟩
end
end
end GB
set_option Elab.async false
set_option linter.all false
set_option maxRecDepth 100000
set_option maxHeartbeats 2000000
namespace GB
open PySem PySem.Spec PyProof.Rows L2
section
variable {K : PySem.W.Frag} {W : WE}
theorem ol_I0 {g : Int → Int → V} {f : PV → PV → Mu → R PV} {gp : Int → Int → PV} (hf : ∀ x y μ, f x y μ = (match x, y with | .int i, .int j => .ok (gp i j) μ | _, _ => .bad)) (hg : ∀ i j ι H, Rep K ι H (gp i j) (g i j)) : OpL K f (rI0 g) := by
  intro W ι μ H a b x y Q hr ra rb h
  rw [hf] at h
  cases a with
  | int i => cases b with
    | int j => cases ra; cases rb; exact ⟨i, j, rfl, rfl, h.ok hr (hg i j ι H)⟩
    | _ => exact h.elim
  | _ => cases b <;> exact h.elim
theorem ol_sub : OpL K fSub (rI0 fun i j => .int (i - j)) := ol_I0 (gp := fun i j => .int (i - j)) (fun x y μ => by cases x <;> cases y <;> rfl) fun _ _ _ _ => rfl
theorem ol_cmp {p : Int → Int → Bool} : OpL K (fCmp p) (rI0 fun i j => .bl (p i j)) := ol_I0 (gp := fun i j => .bl (p i j)) (fun x y μ => by cases x <;> cases y <;> rfl) fun _ _ _ _ => rfl
def rMulG : R2 := rI IntMulOk fun i j => .int (i * j)
theorem mulOk_ok {i j : Int} (h : mulOk i j = true) : IntMulOk i j := by
  unfold mulOk at h
  rw [Bool.or_eq_true, Bool.or_eq_true] at h
  rcases h with (h | h) | h
  · have h2 : i.natAbs < 2 ^ 64 := Nat.blt_eq.mp h
    exact .of_left (intBits_le_64 (by omega) (by omega))
  · have h2 : j.natAbs < 2 ^ 64 := Nat.blt_eq.mp h
    exact .of_right (intBits_le_64 (by omega) (by omega))
  · have h2 : i.natAbs.log2 + j.natAbs.log2 < 134000000 := Nat.blt_eq.mp h
    have b : ∀ x : Int, Builtin.Int.intBits x ≤ x.natAbs.log2 + 1 := fun x => by
      unfold Builtin.Int.intBits
      split <;> omega
    have h1 := b i
    have h3 := b j
    have e : bitsLine = 134217728 := by decide
    unfold IntMulOk
    intro z
    rw [Bool.and_eq_true] at z
    have z2 := z.2
    unfold Builtin.Int.intTooBig at z2
    have z3 := of_decide_eq_true z2
    rw [e] at z3
    omega
theorem op_mulG {X : Cx} : OpR X (binaryOp .Mult) rMulG := opI fun _ _ _ _ _ _ _ hc q => mul_int q hc
theorem ol_mulI : OpL K fMulI rMulG := by
  intro W ι μ H a b x y Q hr ra rb h
  unfold fMulI at h
  cases a with
  | int i => cases b with
    | int j =>
      cases ra; cases rb
      simp only at h
      split at h
      · rename_i c
        exact ⟨i, j, rfl, rfl, mulOk_ok c, h.ok hr rfl⟩
      · exact h.elim
    | _ => exact h.elim
  | _ => cases b <;> exact h.elim
theorem ol_div : OpL K fDiv (rI CDivW fun i j => .int (i / j)) := by
  intro W ι μ H a b x y Q hr ra rb h
  unfold fDiv at h
  cases a with
  | int i => cases b with
    | int j =>
      cases ra; cases rb
      simp only at h
      split at h
      · rename_i c
        rw [Bool.and_eq_true] at c
        exact ⟨i, j, rfl, rfl, ⟨of_decide_eq_true c.1, Nat.blt_eq.mp c.2⟩, h.ok hr rfl⟩
      · exact h.elim
    | _ => exact h.elim
  | _ => cases b <;> exact h.elim
theorem ol_mod : OpL K fMod (rI (fun _ j => 0 < j) fun i j => .int (i % j)) := by
  intro W ι μ H a b x y Q hr ra rb h
  unfold fMod at h
  cases a with
  | int i => cases b with
    | int j =>
      cases ra; cases rb
      simp only at h
      split at h
      · rename_i c
        exact ⟨i, j, rfl, rfl, c, h.ok hr rfl⟩
      · exact h.elim
    | _ => exact h.elim
  | _ => cases b <;> exact h.elim
theorem ol_pow : OpL K fPow (rI CPow fun i j => .int (i ^ j.toNat)) := by
  intro W ι μ H a b x y Q hr ra rb h
  unfold fPow at h
  cases a with
  | int i => cases b with
    | int j =>
      cases ra; cases rb
      simp only at h
      split at h
      · rename_i c
        rw [Bool.and_eq_true, Bool.and_eq_true] at c
        exact ⟨i, j, rfl, rfl, ⟨of_decide_eq_true c.1.1, of_decide_eq_true c.1.2, Nat.blt_eq.mp c.2⟩, h.ok hr rfl⟩
      · exact h.elim
    | _ => exact h.elim
  | _ => cases b <;> exact h.elim
theorem ul_neg : UnL K fNeg (rU fun i => .int (-i)) := by
  intro W ι μ H a x Q hr ra h
  unfold fNeg at h
  cases a with
  | int i => cases ra; exact ⟨i, rfl, h.ok hr rfl⟩
  | _ => exact h.elim
/-- + of ints, texts, tuples, lists -/
def rAddG (K : PySem.W.Frag) : R2 := fun x y H Q => rI0 (fun i j => .int (i + j)) x y H Q ∨ ((∃ i j, x = .str i ∧ y = .str j ∧ i.length + j.length ≤ sizeLine ∧ Q (.str (i ++ j)) H) ∨ (rCatT K x y H Q ∨ rCat x y H Q))
theorem op_addG {X : Cx} : OpR X (binaryOp .Add) (rAddG X.K) := op_add.or (op_add_str.or (op_catT.or op_cat))
theorem ol_add : OpL K fAdd (rAddG K) := by
  intro W ι μ H a b x y Q hr ra rb h
  unfold fAdd at h
  cases a with
  | int i => cases b with
    | int j => cases ra; cases rb; exact .inl ⟨i, j, rfl, rfl, h.ok hr rfl⟩
    | _ => exact h.elim
  | str i => cases b with
    | str j =>
      cases ra; cases rb
      simp only at h
      split at h
      · rename_i c
        exact .inr (.inl ⟨i, j, rfl, rfl, by rw [← line_eq]; exact c, h.ok hr rfl⟩)
      · exact h.elim
    | _ => exact h.elim
  | tup xs => cases b with
    | tup ys =>
      simp only at h
      split at h
      · rename_i c
        rw [Bool.and_eq_true] at c
        have c1 : xs ≠ [] := fun z => by rw [z] at c; exact absurd c.1 (by decide)
        have c2 := of_decide_eq_true c.2
        obtain ⟨a1, vs, rfl, s1, r1⟩ := ra
        obtain ⟨a2, us, rfl, s2, r2⟩ := rb
        have l1 := r1.length
        have l2 := r2.length
        refine .inr (.inr (.inl ⟨a1, a2, vs, us, rfl, rfl, s1, s2, fun z => c1 ?_, by rw [l1, l2, ← line_eq]; exact c2, fun z => ?_, fun z p hp => ?_⟩))
        · rw [z] at l1; exact List.eq_nil_of_length_eq_zero l1.symm
        · refine h.ok hr ⟨a1, vs, rfl, s1, ?_⟩
          have : ys = [] := by rw [z] at l2; exact List.eq_nil_of_length_eq_zero l2.symm
          rw [this, List.append_nil]; exact r1
        · exact h.at_ (grow_new hp) (hr.new hp) ⟨p, _, rfl, .of upd_same, (r1.append r2).grow (grow_new hp)⟩
      · exact h.elim
    | _ => exact h.elim
  | ref l => cases b with
    | ref m =>
      simp only at h
      cases e1 : getM μ l with
      | none => rw [e1] at h; exact h.elim
      | some xs => cases e2 : getM μ m with
        | none => rw [e1, e2] at h; exact h.elim
        | some ys =>
          rw [e1, e2] at h
          simp only at h
          split at h
          · rename_i c
            obtain ⟨a1, vs, i1, h1, r1⟩ := getM_at hr e1
            obtain ⟨a2, us, i2, h2, r2⟩ := getM_at hr e2
            obtain rfl := ref_eq ra i1
            obtain rfl := ref_eq rb i2
            refine .inr (.inr (.inr ⟨a1, a2, vs, us, rfl, rfl, h1, h2, by rw [r1.length, r2.length, ← line_eq]; exact c, fun p hp => ?_⟩))
            exact h.at_ (grow_alloc hp) (hr.alloc hp (r1.append r2)) (alloc_ref hr)
          · exact h.elim
    | _ => exact h.elim
  | non => cases b <;> exact h.elim
  | bl _ => cases b <;> exact h.elim
  | raw _ => cases b <;> exact h.elim
/-! ### == -/
mutual
theorem toD_dp {ι : List Addr} {μ : Mu} {H : Hp} (hr : HR K ι μ H) : ∀ (n : Nat) (x : PV) (v : V) (d : PyData), toD μ n x = some d → Rep K ι H x v → Dp K H v d
  | 0, _, _, _, e, _ => by simp [toD] at e
  | _ + 1, .non, _, _, e, r => by simp only [toD] at e; cases e; cases r; exact .non
  | _ + 1, .bl _, _, _, e, r => by simp only [toD] at e; cases e; cases r; exact .bl _
  | _ + 1, .int _, _, _, e, r => by simp only [toD] at e; cases e; cases r; exact .int _
  | _ + 1, .str _, _, _, e, r => by simp only [toD] at e; cases e; cases r; exact .str _
  | n + 1, .tup xs, _, _, e, ⟨a, vs, h1, h2, h3⟩ => by
    simp only [toD] at e
    cases q : toDL μ n xs with
    | none => rw [q] at e; cases e
    | some ds => rw [q] at e; cases e; subst h1; exact .tup h2 (toDL_dp hr n xs vs ds q h3)
  | n + 1, .ref l, _, _, e, r => by
    simp only [toD] at e
    cases q : getL μ l with
    | none => rw [q] at e; cases e
    | some xs =>
      rw [q] at e
      obtain ⟨a, vs, h1, h2, h3, _⟩ := getL_sq hr q
      obtain rfl := ref_eq r h1
      cases q2 : toDL μ n xs with
      | none => simp only [Option.bind_some, q2] at e; cases e
      | some ds =>
        simp only [Option.bind_some, q2] at e; cases e
        exact .lst h2 (toDL_dp hr n xs vs ds q2 h3)
  | _ + 1, .raw _, _, _, e, _ => by simp only [toD] at e; cases e
theorem toDL_dp {ι : List Addr} {μ : Mu} {H : Hp} (hr : HR K ι μ H) : ∀ (n : Nat) (xs : List PV) (vs : List V) (ds : List PyData), toDL μ n xs = some ds → RepL K ι H xs vs → DpAll K H vs ds
  | 0, _, _, _, e, _ => by simp [toDL] at e
  | _ + 1, [], _, _, e, r => by simp only [toDL] at e; cases e; rw [show _ = [] from r]; exact .nil
  | n + 1, x :: xs, _, _, e, ⟨v, r, h1, h2, h3⟩ => by
    simp only [toDL] at e
    cases q : toD μ n x with
    | none => rw [q] at e; cases e
    | some d =>
      rw [q] at e
      cases q2 : toDL μ n xs with
      | none => simp only [Option.bind_some, q2] at e; cases e
      | some ds =>
        simp only [Option.bind_some, q2] at e; cases e
        subst h1
        exact .cons (toD_dp hr n x v d q h2) (toDL_dp hr n xs r ds q2 h3)
end
theorem eqv_int (i j : Int) : PyData.eqv (.int i) (.int j) = decide (i = j) := by
  unfold PyData.eqv
  by_cases h : i = j <;> simp [h]
theorem eqv_bl (i j : Bool) : PyData.eqv (.bool i) (.bool j) = (i == j) := by
  unfold PyData.eqv
  cases i <;> cases j <;> rfl
theorem sh_int (i : Int) : SeqAt.shaped (.int i) = true := by unfold SeqAt.shaped; simp [PyData.canLay0, PyData.depth]
theorem sh_bl (i : Bool) : SeqAt.shaped (.bool i) = true := by unfold SeqAt.shaped; simp [PyData.canLay0, PyData.depth]
theorem sh_non : SeqAt.shaped .none = true := by decide
theorem eqB_ok {ι : List Addr} {μ : Mu} {H : Hp} {a b : PV} {x y : V} {k : Bool} (hr : HR K ι μ H) (ra : Rep K ι H a x) (rb : Rep K ι H b y) (e : eqB a b μ = some k) :
    ∃ d e, Dp K H x d ∧ Dp K H y e ∧ SeqAt.shaped d = true ∧ SeqAt.shaped e = true ∧ k = PyData.eqv d e := by
  have gen : ∀ {a b : PV}, Rep K ι H a x → Rep K ι H b y → (match toD μ 1000 a, toD μ 1000 b with
    | some d, some e => if SeqAt.shaped d && SeqAt.shaped e then some (PyData.eqv d e) else none
    | _, _ => none) = some k → ∃ d e, Dp K H x d ∧ Dp K H y e ∧ SeqAt.shaped d = true ∧ SeqAt.shaped e = true ∧ k = PyData.eqv d e := by
    intro a b ra rb e
    cases q1 : toD μ 1000 a with
    | none => rw [q1] at e; cases e
    | some d => cases q2 : toD μ 1000 b with
      | none => rw [q1, q2] at e; cases e
      | some d2 =>
        rw [q1, q2] at e
        simp only at e
        split at e
        · rename_i c
          rw [Bool.and_eq_true] at c
          cases e
          exact ⟨d, d2, toD_dp hr _ _ _ _ q1 ra, toD_dp hr _ _ _ _ q2 rb, c.1, c.2, rfl⟩
        · cases e
  unfold eqB at e
  split at e
  · cases ra; cases rb; cases e; exact ⟨_, _, .int _, .int _, sh_int _, sh_int _, (eqv_int _ _).symm⟩
  · cases ra; cases rb; cases e; exact ⟨_, _, .bl _, .bl _, sh_bl _, sh_bl _, (eqv_bl _ _).symm⟩
  · cases ra; cases rb; cases e; exact ⟨_, _, .non, .non, sh_non, sh_non, rfl⟩
  · cases ra; cases rb; cases e; exact ⟨_, _, .int _, .non, sh_int _, sh_non, rfl⟩
  · cases ra; cases rb; cases e; exact ⟨_, _, .non, .int _, sh_non, sh_int _, rfl⟩
  · exact gen ra rb e
theorem ol_eq : OpL K fEq (rEqD K) := by
  intro W ι μ H a b x y Q hr ra rb h
  unfold fEq at h
  cases e : eqB a b μ with
  | none => rw [e] at h; exact h.elim
  | some k =>
    rw [e] at h
    obtain ⟨d, d2, h1, h2, h3, h4, rfl⟩ := eqB_ok hr ra rb e
    exact ⟨d, d2, h1, h2, h3, h4, h.ok hr rfl⟩
theorem ol_ne : OpL K fNe (rNeD K) := by
  intro W ι μ H a b x y Q hr ra rb h
  unfold fNe at h
  cases e : eqB a b μ with
  | none => rw [e] at h; exact h.elim
  | some k =>
    rw [e] at h
    obtain ⟨d, d2, h1, h2, h3, h4, rfl⟩ := eqB_ok hr ra rb e
    exact ⟨d, d2, h1, h2, h3, h4, h.ok hr rfl⟩
theorem isn_of {ι : List Addr} {H : Hp} {a : PV} {x : V} (r : Rep K ι H a x) (h : ∀ u, a ≠ .raw u) : decide (x = .non) = (match a with | .non => true | _ => false) := by
  cases a with
  | non => cases r; rfl
  | bl _ => cases r; rfl
  | int _ => cases r; rfl
  | str _ => cases r; rfl
  | tup _ => obtain ⟨_, _, rfl, _⟩ := r; rfl
  | ref _ => obtain ⟨_, rfl, _⟩ := r; rfl
  | raw u => exact absurd rfl (h u)
end
/-! ### rules -/
section
variable {X : Cx} {W : WS} {a b c : Expr} {da db dc : Dn PV} {es : List Expr} {dl : Dn (List PV)} {pos : Pos} {j : Nat} {pn : Pos}
theorem e_add (ha : PE X a (LE X.K W da)) (hb : PE X b (LE X.K W db)) : PE X (.BinOp a .Add b pos) (LE X.K W (dOp fAdd da db)) := e_op op_addG ol_add ha hb
theorem e_sub (ha : PE X a (LE X.K W da)) (hb : PE X b (LE X.K W db)) : PE X (.BinOp a .Sub b pos) (LE X.K W (dOp fSub da db)) := e_op op_sub ol_sub ha hb
theorem e_mulI (ha : PE X a (LE X.K W da)) (hb : PE X b (LE X.K W db)) : PE X (.BinOp a .Mult b pos) (LE X.K W (dOp fMulI da db)) := e_op op_mulG ol_mulI ha hb
theorem e_div (ha : PE X a (LE X.K W da)) (hb : PE X b (LE X.K W db)) : PE X (.BinOp a .FloorDiv b pos) (LE X.K W (dOp fDiv da db)) := e_op op_fdivW ol_div ha hb
theorem e_mod (ha : PE X a (LE X.K W da)) (hb : PE X b (LE X.K W db)) : PE X (.BinOp a .Mod b pos) (LE X.K W (dOp fMod da db)) := e_op op_mod ol_mod ha hb
theorem e_pow (ha : PE X a (LE X.K W da)) (hb : PE X b (LE X.K W db)) : PE X (.BinOp a .Pow b pos) (LE X.K W (dOp fPow da db)) := e_op op_pow ol_pow ha hb
theorem e_neg (ha : PE X a (LE X.K W da)) : PE X (.UnaryOp .USub a pos) (LE X.K W (dUn fNeg da)) := e_un un_neg ul_neg ha
theorem e_lt (ha : PE X a (LE X.K W da)) (hb : PE X b (LE X.K W db)) : PE X (.Compare a [.Lt] [b] pos) (LE X.K W (dOp fLt da db)) := e_cmp op_lt ol_cmp ha hb (nomark _)
theorem e_le (ha : PE X a (LE X.K W da)) (hb : PE X b (LE X.K W db)) : PE X (.Compare a [.LtE] [b] pos) (LE X.K W (dOp fLe da db)) := e_cmp op_le ol_cmp ha hb (nomark _)
theorem e_gt (ha : PE X a (LE X.K W da)) (hb : PE X b (LE X.K W db)) : PE X (.Compare a [.Gt] [b] pos) (LE X.K W (dOp fGt da db)) := e_cmp op_gt ol_cmp ha hb (nomark _)
theorem e_ge (ha : PE X a (LE X.K W da)) (hb : PE X b (LE X.K W db)) : PE X (.Compare a [.GtE] [b] pos) (LE X.K W (dOp fGe da db)) := e_cmp op_ge ol_cmp ha hb (nomark _)
theorem e_eq (hu : X.A.units + 64 < cLine) (ha : PE X a (LE X.K W da)) (hb : PE X b (LE X.K W db)) : PE X (.Compare a [.Eq] [b] pos) (LE X.K W (dOp fEq da db)) := e_cmp (op_eqD hu) ol_eq ha hb (nomark _)
theorem e_ne (hu : X.A.units + 64 < cLine) (ha : PE X a (LE X.K W da)) (hb : PE X b (LE X.K W db)) : PE X (.Compare a [.NotEq] [b] pos) (LE X.K W (dOp fNe da db)) := e_cmp (op_neD hu) ol_ne ha hb (nomark _)
theorem t_lt (ha : PE X a (LE X.K W da)) (hb : PE X b (LE X.K W db)) : PT X (.Compare a [.Lt] [b] pos) (LT X.K W (asB (dOp fLt da db))) := t_cmp op_lt ol_cmp ha hb (nomark _)
theorem t_le (ha : PE X a (LE X.K W da)) (hb : PE X b (LE X.K W db)) : PT X (.Compare a [.LtE] [b] pos) (LT X.K W (asB (dOp fLe da db))) := t_cmp op_le ol_cmp ha hb (nomark _)
theorem t_gt (ha : PE X a (LE X.K W da)) (hb : PE X b (LE X.K W db)) : PT X (.Compare a [.Gt] [b] pos) (LT X.K W (asB (dOp fGt da db))) := t_cmp op_gt ol_cmp ha hb (nomark _)
theorem t_ge (ha : PE X a (LE X.K W da)) (hb : PE X b (LE X.K W db)) : PT X (.Compare a [.GtE] [b] pos) (LT X.K W (asB (dOp fGe da db))) := t_cmp op_ge ol_cmp ha hb (nomark _)
theorem t_eq (hu : X.A.units + 64 < cLine) (ha : PE X a (LE X.K W da)) (hb : PE X b (LE X.K W db)) : PT X (.Compare a [.Eq] [b] pos) (LT X.K W (asB (dOp fEq da db))) := t_cmp (op_eqD hu) ol_eq ha hb (nomark _)
theorem t_ne (hu : X.A.units + 64 < cLine) (ha : PE X a (LE X.K W da)) (hb : PE X b (LE X.K W db)) : PT X (.Compare a [.NotEq] [b] pos) (LT X.K W (asB (dOp fNe da db))) := t_cmp (op_neD hu) ol_ne ha hb (nomark _)
theorem l_isN {K : PySem.W.Frag} {σ : L2.St} {H : Hp} {Q : VK} (h : LE K W (dUn fIsN da) σ H Q) : LE K W da σ H fun x H1 => V.non = .non ∧ Q (.bl (decide (x = .non))) H1 := by
  obtain ⟨ρ, μ, ι, sr, hr, h⟩ := h
  refine ⟨ρ, μ, ι, sr, hr, Post.mono (Post.bind h) ?_⟩
  rintro v H1 ⟨x, μ1, ι1, g1, hr1, r1, h1⟩
  unfold fIsN at h1
  refine ⟨rfl, ?_⟩
  cases x with
  | raw u => exact h1.elim
  | _ => rw [isn_of r1 (fun u => nofun)]; exact h1.ok hr1 rfl
theorem l_notN {K : PySem.W.Frag} {σ : L2.St} {H : Hp} {Q : VK} (h : LE K W (dUn fNotN da) σ H Q) : LE K W da σ H fun x H1 => V.non = .non ∧ Q (.bl (!decide (x = .non))) H1 := by
  obtain ⟨ρ, μ, ι, sr, hr, h⟩ := h
  refine ⟨ρ, μ, ι, sr, hr, Post.mono (Post.bind h) ?_⟩
  rintro v H1 ⟨x, μ1, ι1, g1, hr1, r1, h1⟩
  unfold fNotN at h1
  refine ⟨rfl, ?_⟩
  cases x with
  | raw u => exact h1.elim
  | _ => rw [isn_of r1 (fun u => nofun)]; exact h1.ok hr1 rfl
theorem e_isN (ha : PE X a (LE X.K W da)) : PE X (.Compare a [.Is] [.Constant .none j pn] pos) (LE X.K W (dUn fIsN da)) := (pe_cmpR op_isN ha pe_non (nomark _)).mono fun σ H Q h => l_isN h
theorem e_notN (ha : PE X a (LE X.K W da)) : PE X (.Compare a [.IsNot] [.Constant .none j pn] pos) (LE X.K W (dUn fNotN da)) := (pe_cmpR op_notN ha pe_non (nomark _)).mono fun σ H Q h => l_notN h
theorem t_isN (ha : PE X a (LE X.K W da)) : PT X (.Compare a [.Is] [.Constant .none j pn] pos) (LT X.K W (asB (dUn fIsN da))) := (pt_cmpR op_isN ha pe_non (nomark _)).mono fun σ H Q ⟨ρ, μ, ι, sr, hr, h⟩ => l_isN ⟨ρ, μ, ι, sr, hr, asB_bind h⟩
theorem t_notN (ha : PE X a (LE X.K W da)) : PT X (.Compare a [.IsNot] [.Constant .none j pn] pos) (LT X.K W (asB (dUn fNotN da))) := (pt_cmpR op_notN ha pe_non (nomark _)).mono fun σ H Q ⟨ρ, μ, ι, sr, hr, h⟩ => l_notN ⟨ρ, μ, ι, sr, hr, asB_bind h⟩
/-- a < b <= c -/
def dChain (f g : PV → PV → Mu → R PV) (a b c : Dn PV) : Dn PV := fun ρ μ => (a ρ μ).bind fun x μ => (b ρ μ).bind fun y μ => (f x y μ).bind fun z μ => match z with
  | .bl true => (c ρ μ).bind fun w μ => g y w μ
  | .bl false => .ok (.bl false) μ
  | _ => .bad
theorem l_chain {K : PySem.W.Frag} {f g : PV → PV → Mu → R PV} {r r' : R2} (hl : OpL K f r) (hl' : OpL K g r') {σ : L2.St} {H : Hp} {Q : VK} (h : LE K W (dChain f g da db dc) σ H Q) : tChain r r' (LE K W da) (LE K W db) (LE K W dc) σ H Q := by
  obtain ⟨ρ, μ, ι, sr, hr, h⟩ := h
  refine ⟨ρ, μ, ι, sr, hr, Post.mono (Post.bind h) ?_⟩
  rintro v H1 ⟨x, μ1, ι1, g1, hr1, r1, h1⟩
  refine ⟨ρ, μ1, ι1, sr.grow g1, hr1, Post.mono (Post.bind h1) ?_⟩
  rintro u H2 ⟨y, μ2, ι2, g2, hr2, r2, h2⟩
  refine hl _ _ _ _ _ _ _ _ _ hr2 (r1.grow g2) r2 (Post.mono (Post.bind h2) ?_)
  rintro z H3 ⟨zz, μ3, ι3, g3, hr3, r3, h3⟩
  cases zz with
  | bl k =>
    cases r3
    refine ⟨k, rfl, ?_⟩
    cases k with
    | true =>
      rw [if_pos rfl]
      refine ⟨ρ, μ3, ι3, ((sr.grow g1).grow g2).grow g3, hr3, Post.mono (Post.bind h3) ?_⟩
      rintro w' H4 ⟨w, μ4, ι4, g4, hr4, r4, h4⟩
      exact hl' _ _ _ _ _ _ _ _ _ hr4 ((r2.grow g3).grow g4) r4 h4
    | false => rw [if_neg Bool.false_ne_true]; exact h3.ok hr3 rfl
  | _ => exact h3.elim
theorem e_lelt (ha : PE X a (LE X.K W da)) (hb : PE X b (LE X.K W db)) (hc : PE X c (LE X.K W dc)) (hm : lastMarks [.LtE, .Lt] [b, c] = false := by with_unfolding_all rfl) : PE X (.Compare a [.LtE, .Lt] [b, c] pos) (LE X.K W (dChain fLe fLt da db dc)) := (pe_chain op_le op_lt ha hb hc hm).mono fun σ H Q h => l_chain ol_cmp ol_cmp h
theorem e_ltle (ha : PE X a (LE X.K W da)) (hb : PE X b (LE X.K W db)) (hc : PE X c (LE X.K W dc)) (hm : lastMarks [.Lt, .LtE] [b, c] = false := by with_unfolding_all rfl) : PE X (.Compare a [.Lt, .LtE] [b, c] pos) (LE X.K W (dChain fLt fLe da db dc)) := (pe_chain op_lt op_le ha hb hc hm).mono fun σ H Q h => l_chain ol_cmp ol_cmp h
theorem t_lelt (ha : PE X a (LE X.K W da)) (hb : PE X b (LE X.K W db)) (hc : PE X c (LE X.K W dc)) (hm : lastMarks [.LtE, .Lt] [b, c] = false := by with_unfolding_all rfl) : PT X (.Compare a [.LtE, .Lt] [b, c] pos) (LT X.K W (asB (dChain fLe fLt da db dc))) := (pt_chain op_le op_lt ha hb hc hm).mono fun σ H Q ⟨ρ, μ, ι, sr, hr, h⟩ => l_chain ol_cmp ol_cmp ⟨ρ, μ, ι, sr, hr, asB_bind h⟩
theorem t_ltle (ha : PE X a (LE X.K W da)) (hb : PE X b (LE X.K W db)) (hc : PE X c (LE X.K W dc)) (hm : lastMarks [.Lt, .LtE] [b, c] = false := by with_unfolding_all rfl) : PT X (.Compare a [.Lt, .LtE] [b, c] pos) (LT X.K W (asB (dChain fLt fLe da db dc))) := (pt_chain op_lt op_le ha hb hc hm).mono fun σ H Q ⟨ρ, μ, ι, sr, hr, h⟩ => l_chain ol_cmp ol_cmp ⟨ρ, μ, ι, sr, hr, asB_bind h⟩
end
end GB

set_option Elab.async false
set_option linter.all false
set_option maxRecDepth 100000
set_option maxHeartbeats 2000000
namespace GB
open PySem PySem.Spec PyProof.Rows L2
/-! ### subscripts, slices -/
def cutP (xs : List PV) (lo hi : Option Int) : List PV := (xs.drop (HT.sIx xs.length 0 lo)).take (HT.sIx xs.length xs.length hi - HT.sIx xs.length 0 lo)
/-- o[lo:hi] of a list (a new one) or of a tuple, not the whole of it -/
def fSl (x : PV) (lo hi : Option Int) (μ : Mu) : R PV := match x with
  | .ref l => match getL μ l with
    | some xs => .ok (.ref μ.length) (μ ++ [.lst (cutP xs lo hi)])
    | none => .bad
  | .tup xs => if HT.sIx xs.length 0 lo = 0 ∧ HT.sIx xs.length xs.length hi = xs.length then .bad else .ok (.tup (cutP xs lo hi)) μ
  | _ => .bad
abbrev DO := Rho → Mu → R (Option Int)
def dNoPart : DO := fun _ μ => .ok none μ
def dPart (a : Dn PV) : DO := fun ρ μ => (a ρ μ).bind fun x μ => match x with
  | .int i => .ok (some i) μ
  | _ => .bad
def dSl (a : Dn PV) (lo hi : DO) : Dn PV := fun ρ μ => (a ρ μ).bind fun x μ => (lo ρ μ).bind fun l μ => (hi ρ μ).bind fun h μ => fSl x l h μ
section
variable {K : PySem.W.Frag} {W : WE}
abbrev LO (K : PySem.W.Frag) (W : WS) (d : DO) : TO := lift K W (fun _ _ a b => a = b) d
theorem ol_ix : OpL K fIx (rIx K) := by
  intro W ι μ H a b x y Q hr ra rb h
  unfold fIx at h
  cases a with
  | tup xs => cases b with
    | int i =>
      cases rb
      obtain ⟨a1, vs, rfl, s1, r1⟩ := ra
      simp only at h
      cases e : atI xs i with
      | none => rw [e] at h; exact h.elim
      | some v =>
        rw [e] at h
        obtain ⟨u, h1, h2⟩ := atI_rep r1 e
        exact .inr (.inl ⟨a1, vs, i, u, rfl, rfl, s1, h1, h.ok hr h2⟩)
    | _ => exact h.elim
  | ref l => cases b with
    | int i =>
      cases rb
      simp only at h
      cases q : getL μ l with
      | none => rw [q] at h; exact h.elim
      | some xs =>
        rw [q] at h
        simp only [Option.bind_some] at h
        cases e : atI xs i with
        | none => rw [e] at h; exact h.elim
        | some v =>
          rw [e] at h
          obtain ⟨a1, vs, h1, h2, h3, _⟩ := getL_sq hr q
          obtain rfl := ref_eq ra h1
          obtain ⟨u, h4, h5⟩ := atI_rep h3 e
          exact .inl ⟨a1, vs, i, u, rfl, rfl, h2, h4, h.ok hr h5⟩
    | _ => exact h.elim
  | str z => cases b with
    | int i =>
      cases ra; cases rb
      simp only at h
      split at h
      · rename_i c
        cases e : atI z.cps.toList i with
        | none => rw [e] at h; exact h.elim
        | some v => rw [e] at h; exact .inr (.inr ⟨z, i, v, rfl, rfl, by rw [← line_eq]; exact c, e, h.ok hr rfl⟩)
      · exact h.elim
    | _ => exact h.elim
  | non => exact h.elim
  | bl _ => exact h.elim
  | int _ => exact h.elim
  | raw _ => exact h.elim
theorem cutV_rep {ι : List Addr} {H : Hp} {xs : List PV} {vs : List V} (r : RepL K ι H xs vs) (lo hi : Option Int) : RepL K ι H (cutP xs lo hi) (cutV vs lo hi) := by
  unfold cutP cutV
  rw [r.length]
  exact (r.drop _).take _
end
section
variable {X : Cx} {W : WS} {a b : Expr} {da db : Dn PV} {es : List Expr} {dl : Dn (List PV)} {pos p2 : Pos} {lo hi : Option Expr} {dlo dhi : DO}
theorem e_ix (ha : PE X a (LE X.K W da)) (hb : PE X b (LE X.K W db)) (hs : PlainIx b := by intro _ _; rfl) : PE X (.Subscript a b pos) (LE X.K W (dOp fIx da db)) := (pe_ix ix_seq ha hb hs).mono fun σ H Q h => lift_op ol_ix h
theorem o_none : L2.PO X none (LO X.K W dNoPart) := ⟨fun pins s σ H Q I ⟨ρ, μ, ι, sr, hr, h⟩ => po_none.run pins s σ H Q I (show tNoPart σ H Q from h.ok hr rfl)⟩
theorem o_some (h : PE X a (LE X.K W da)) : L2.PO X (some a) (LO X.K W (dPart da)) := ⟨fun pins s σ H Q I ⟨ρ, μ, ι, sr, hr, q⟩ => (po_some h).run pins s σ H Q I (by
  refine ⟨ρ, μ, ι, sr, hr, Post.mono (Post.bind q) ?_⟩
  rintro v H1 ⟨x, μ1, ι1, g1, hr1, r1, h1⟩
  cases x with
  | int i => exact ⟨i, r1, h1.ok hr1 rfl⟩
  | _ => exact h1.elim)⟩
def rSlG (K : PySem.W.Frag) : V → Option Int → Option Int → Hp → VK → Prop := fun x lo hi H Q => rSlL K x lo hi H Q ∨ rSlT K x lo hi H Q
theorem e_sl (ha : PE X a (LE X.K W da)) (hl : L2.PO X lo (LO X.K W dlo)) (hh : L2.PO X hi (LO X.K W dhi)) : PE X (.Subscript a (.Slice lo hi none p2) pos) (LE X.K W (dSl da dlo dhi)) := by
  refine (pe_slice (r := rSlG X.K) (sl_list.or sl_tup) ha hl hh).mono fun σ H Q ⟨ρ, μ, ι, sr, hr, h⟩ => ?_
  refine ⟨ρ, μ, ι, sr, hr, Post.mono (Post.bind h) ?_⟩
  rintro v H1 ⟨x, μ1, ι1, g1, hr1, r1, h1⟩
  refine ⟨ρ, μ1, ι1, sr.grow g1, hr1, Post.mono (Post.bind h1) ?_⟩
  rintro l H2 ⟨l', μ2, ι2, g2, hr2, rfl, h2⟩
  refine ⟨ρ, μ2, ι2, (sr.grow g1).grow g2, hr2, Post.mono (Post.bind h2) ?_⟩
  rintro u H3 ⟨u', μ3, ι3, g3, hr3, rfl, h3⟩
  have r3 := (r1.grow g2).grow g3
  unfold fSl at h3
  cases x with
  | ref m =>
    simp only at h3
    cases q : getL μ3 m with
    | none => rw [q] at h3; exact h3.elim
    | some xs =>
      rw [q] at h3
      obtain ⟨a1, vs, i1, i2, i3, _⟩ := getL_sq hr3 q
      obtain rfl := ref_eq r3 i1
      exact .inl ⟨a1, vs, rfl, i2, fun p hp => h3.at_ (grow_alloc hp) (hr3.alloc hp (cutV_rep i3 _ _)) (alloc_ref hr3)⟩
  | tup xs =>
    obtain ⟨a1, vs, rfl, s1, r4⟩ := r3
    simp only at h3
    split at h3
    · exact h3.elim
    · rename_i c
      exact .inr ⟨a1, vs, rfl, s1, by rw [r4.length]; exact c, fun p hp => h3.at_ (grow_new hp) (hr3.new hp) ⟨p, _, rfl, .of upd_same, (cutV_rep r4 _ _).grow (grow_new hp)⟩⟩
  | _ => exact h3.elim
/-- *e in a display or an argument list -/
def dStar (a : Dn PV) (r : Dn (List PV)) : Dn (List PV) := fun ρ μ => (a ρ μ).bind fun x μ => match x with
  | .tup xs => (r ρ μ).bind fun ys μ => .ok (xs ++ ys) μ
  | .ref l => match getL μ l with
    | some xs => (r ρ μ).bind fun ys μ => .ok (xs ++ ys) μ
    | none => .bad
  | _ => .bad
theorem a_star {p : Pos} (he : PE X a (LE X.K W da)) (hr : PA X es (LA X.K W dl)) (hs : starEach (.Starred a p :: es) X.env = (true, eval a X.env) :: starEach es X.env := by rfl) : PA X (.Starred a p :: es) (LA X.K W (dStar da dl)) := by
  refine (StX.pa_star he hr hs).mono fun σ H Q ⟨ρ, μ, ι, sr, hr, h⟩ => ?_
  refine ⟨ρ, μ, ι, sr, hr, Post.mono (Post.bind h) ?_⟩
  rintro v H1 ⟨x, μ1, ι1, g1, hr1, r1, h1⟩
  cases x with
  | tup xs =>
    obtain ⟨a1, vs, rfl, s1, r4⟩ := r1
    refine ⟨a1, vs, rfl, .inl s1, ρ, μ1, ι1, sr.grow g1, hr1, Post.mono (Post.bind h1) ?_⟩
    rintro u H2 ⟨y, μ2, ι2, g2, hr2, r2, h2⟩
    exact h2.ok hr2 ((r4.grow g2).append r2)
  | ref l =>
    simp only at h1
    cases q : getL μ1 l with
    | none => rw [q] at h1; exact h1.elim
    | some xs =>
      rw [q] at h1
      obtain ⟨a1, vs, i1, i2, i3, _⟩ := getL_sq hr1 q
      obtain rfl := ref_eq r1 i1
      refine ⟨a1, vs, rfl, .inr i2, ρ, μ1, ι1, sr.grow g1, hr1, Post.mono (Post.bind h1) ?_⟩
      rintro u H2 ⟨y, μ2, ι2, g2, hr2, r2, h2⟩
      exact h2.ok hr2 ((i3.grow g2).append r2)
  | _ => exact h1.elim

/-! ### built-ins -/
theorem lift_app {K : PySem.W.Frag} {f : List PV → Mu → R PV} {r : List V → Hp → VK → Prop} (hl : ApL K f r) {σ : L2.St} {H : Hp} {Q : VK} (h : LE K W (dApp f dl) σ H Q) : tCB r (LA K W dl) σ H Q := by
  obtain ⟨ρ, μ, ι, sr, hr, h⟩ := h
  refine ⟨ρ, μ, ι, sr, hr, Post.mono (Post.bind h) ?_⟩
  rintro v H1 ⟨x, μ1, ι1, g1, hr1, r1, h1⟩
  exact hl _ _ _ _ _ _ _ hr1 r1 h1
theorem e_callB {x : Str} {id : String} {f : List PV → Mu → R PV} {r : List V → Hp → VK → Prop} {p : Pos} {e : Expr} (hc : CallR X (.builtin id) r) (hl : ApL X.K f r) (hg : Gl X x) (hm : X.mg x = none) (hv : bootBuiltins x = some (.builtin id)) (ha : PA X (e :: es) (LA X.K W dl)) (hn : x ≠ "__name__" := by decide) (hdb : (x == ("__debug__" : Str)) = false := by decide)
    (he : starEach (e :: es) X.env = (false, eval e X.env) :: starEach es X.env := by rfl) (hpl : (backTo pos (starEach es X.env)).any (·.1) = false := by rfl) : PE X (.Call (.Name x p) (e :: es) [] pos) (LE X.K W (dApp f dl)) :=
  (pe_callB hc hg hm hv ha hn hdb he hpl).mono fun σ H Q h => lift_app hl h
theorem e_callTy {x : Str} {id : String} {f : List PV → Mu → R PV} {r : List V → Hp → VK → Prop} {p : Pos} {e : Expr} (hc : CallR X (.type id) r) (hl : ApL X.K f r) (hg : Gl X x) (hm : X.mg x = none) (hv : bootBuiltins x = some (.type id)) (ha : PA X (e :: es) (LA X.K W dl)) (hn : x ≠ "__name__" := by decide) (hdb : (x == ("__debug__" : Str)) = false := by decide)
    (he : starEach (e :: es) X.env = (false, eval e X.env) :: starEach es X.env := by rfl) (hpl : (backTo pos (starEach es X.env)).any (·.1) = false := by rfl) : PE X (.Call (.Name x p) (e :: es) [] pos) (LE X.K W (dApp f dl)) :=
  (pe_callTy hc hg hm hv ha hn hdb he hpl).mono fun σ H Q h => lift_app hl h
end
def allI : List PV → Option (List Int)
  | [] => some []
  | .int i :: r => (allI r).map fun l => i :: l
  | _ => none
def allB : List PV → Option (List Bool)
  | [] => some []
  | .bl i :: r => (allB r).map fun l => i :: l
  | _ => none
def maxI : Int → List Int → Int
  | m, [] => m
  | m, x :: r => maxI (if m < x then x else m) r
def minI : Int → List Int → Int
  | m, [] => m
  | m, x :: r => minI (if x < m then x else m) r
def insI (x : Int) : List Int → List Int
  | [] => [x]
  | y :: r => if x ≤ y then x :: y :: r else y :: insI x r
def sortI : List Int → List Int
  | [] => []
  | x :: r => insI x (sortI r)
def fAbs (xs : List PV) (μ : Mu) : R PV := match xs with
  | [.int i] => .ok (.int (if i < 0 then -i else i)) μ
  | _ => .bad
def fLen (xs : List PV) (μ : Mu) : R PV := match xs with
  | [.tup ys] => .ok (.int ys.length) μ
  | [.ref l] => match getL μ l with
    | some ys => .ok (.int ys.length) μ
    | none => .bad
  | [.str z] => if z.length ≤ 16777216 then .ok (.int z.length) μ else .bad
  | _ => .bad
def fInt (xs : List PV) (μ : Mu) : R PV := match xs with
  | [.int i] => .ok (.int i) μ
  | [.bl k] => .ok (.int (if k then 1 else 0)) μ
  | _ => .bad
def fMax (xs : List PV) (μ : Mu) : R PV := match xs with
  | [.int i, .int j] => .ok (.int (if j > i then j else i)) μ
  | [.ref l] => match (getL μ l).bind allI with
    | some (m :: r) => .ok (.int (maxI m r)) μ
    | _ => .bad
  | _ => .bad
def fMin (xs : List PV) (μ : Mu) : R PV := match xs with
  | [.int i, .int j] => .ok (.int (if j < i then j else i)) μ
  | [.ref l] => match (getL μ l).bind allI with
    | some (m :: r) => .ok (.int (minI m r)) μ
    | _ => .bad
  | _ => .bad
def fSum (xs : List PV) (μ : Mu) : R PV := match xs with
  | [.tup ys] => match allI ys with
    | some ns => .ok (.int ns.sum) μ
    | none => .bad
  | [.ref l] => match (getL μ l).bind allI with
    | some ns => .ok (.int ns.sum) μ
    | none => .bad
  | _ => .bad
def fAll (xs : List PV) (μ : Mu) : R PV := match xs with
  | [.ref l] => match (getL μ l).bind allB with
    | some ns => .ok (.bl (ns.all id)) μ
    | none => .bad
  | _ => .bad
def fAny (xs : List PV) (μ : Mu) : R PV := match xs with
  | [.ref l] => match (getL μ l).bind allB with
    | some ns => .ok (.bl (ns.any id)) μ
    | none => .bad
  | _ => .bad
def fList (xs : List PV) (μ : Mu) : R PV := match xs with
  | [.tup ys] => .ok (.ref μ.length) (μ ++ [.lst ys])
  | [.ref l] => match getL μ l with
    | some ys => .ok (.ref μ.length) (μ ++ [.lst ys])
    | none => .bad
  | _ => .bad
def fTuple (xs : List PV) (μ : Mu) : R PV := match xs with
  | [.tup ys] => .ok (.tup ys) μ
  | [.ref l] => match getL μ l with
    | some ys => .ok (.tup ys) μ
    | none => .bad
  | _ => .bad
/-- sorted of a list of ints -/
def fSorted (xs : List PV) (μ : Mu) : R PV := match xs with
  | [.ref l] => match (getL μ l).bind allI with
    | some ns => .ok (.ref μ.length) (μ ++ [.lst ((sortI ns).map .int)])
    | none => match getL μ l with
      | some [y] => .ok (.ref μ.length) (μ ++ [.lst [y]])
      | _ => .bad
  | _ => .bad
theorem insI_perm (x : Int) : ∀ l, (insI x l).Perm (x :: l)
  | [] => .refl _
  | y :: r => by
    unfold insI
    split
    · exact .refl _
    · exact ((insI_perm x r).cons y).trans (.swap x y r)
theorem sortI_perm : ∀ l, (sortI l).Perm l
  | [] => .refl _
  | x :: r => (insI_perm x _).trans ((sortI_perm r).cons x)
theorem insI_sorted (x : Int) : ∀ l, l.Pairwise (· ≤ ·) → (insI x l).Pairwise (· ≤ ·)
  | [], _ => by simp [insI]
  | y :: r, h => by
    unfold insI
    rw [List.pairwise_cons] at h
    split
    · rename_i c
      rw [List.pairwise_cons]
      refine ⟨fun z hz => ?_, by rw [List.pairwise_cons]; exact h⟩
      rcases List.mem_cons.mp hz with rfl | hz
      · exact c
      · exact Int.le_trans c (h.1 z hz)
    · rename_i c
      rw [List.pairwise_cons]
      refine ⟨fun z hz => ?_, insI_sorted x r h.2⟩
      rcases List.mem_cons.mp ((insI_perm x r).mem_iff.mp hz) with rfl | hz
      · omega
      · exact h.1 z hz
theorem sortI_sorted : ∀ l, (sortI l).Pairwise (· ≤ ·)
  | [] => .nil
  | x :: r => insI_sorted x _ (sortI_sorted r)
theorem maxI_spec : ∀ (l : List Int) (m : Int), (maxI m l = m ∨ maxI m l ∈ l) ∧ m ≤ maxI m l ∧ ∀ y ∈ l, y ≤ maxI m l
  | [], m => ⟨.inl rfl, Int.le_refl _, fun _ h => nomatch h⟩
  | x :: r, m => by
    unfold maxI
    obtain ⟨h1, h2, h3⟩ := maxI_spec r (if m < x then x else m)
    split at h1
    · rename_i c
      rw [if_pos c] at h2 h3 ⊢
      refine ⟨.inr ?_, by omega, fun y hy => ?_⟩
      · rcases h1 with h1 | h1
        · rw [h1]; exact List.mem_cons_self
        · exact List.mem_cons_of_mem _ h1
      · rcases List.mem_cons.mp hy with rfl | hy
        · exact h2
        · exact h3 y hy
    · rename_i c
      rw [if_neg c] at h2 h3 ⊢
      refine ⟨?_, by omega, fun y hy => ?_⟩
      · rcases h1 with h1 | h1
        · exact .inl h1
        · exact .inr (List.mem_cons_of_mem _ h1)
      · rcases List.mem_cons.mp hy with rfl | hy
        · omega
        · exact h3 y hy
theorem minI_spec : ∀ (l : List Int) (m : Int), (minI m l = m ∨ minI m l ∈ l) ∧ minI m l ≤ m ∧ ∀ y ∈ l, minI m l ≤ y
  | [], m => ⟨.inl rfl, Int.le_refl _, fun _ h => nomatch h⟩
  | x :: r, m => by
    unfold minI
    obtain ⟨h1, h2, h3⟩ := minI_spec r (if x < m then x else m)
    split at h1
    · rename_i c
      rw [if_pos c] at h2 h3 ⊢
      refine ⟨.inr ?_, by omega, fun y hy => ?_⟩
      · rcases h1 with h1 | h1
        · rw [h1]; exact List.mem_cons_self
        · exact List.mem_cons_of_mem _ h1
      · rcases List.mem_cons.mp hy with rfl | hy
        · exact h2
        · exact h3 y hy
    · rename_i c
      rw [if_neg c] at h2 h3 ⊢
      refine ⟨?_, by omega, fun y hy => ?_⟩
      · rcases h1 with h1 | h1
        · exact .inl h1
        · exact .inr (List.mem_cons_of_mem _ h1)
      · rcases List.mem_cons.mp hy with rfl | hy
        · omega
        · exact h3 y hy
section
variable {K : PySem.W.Frag} {W : WE} {ι : List Addr} {H : Hp} {μ : Mu}
theorem allI_rep : ∀ {xs : List PV} {vs : List V} {ns : List Int}, RepL K ι H xs vs → allI xs = some ns → vs = ns.map V.int
  | [], _, _, r, e => by cases e; rw [show _ = [] from r]; rfl
  | .int i :: xs, _, ns, ⟨v, r, e1, e2, e3⟩, e => by
    unfold allI at e
    cases q : allI xs with
    | none => rw [q] at e; cases e
    | some l => rw [q] at e; cases e; subst e1; cases e2; rw [allI_rep e3 q]; rfl
  | .non :: _, _, _, _, e => by cases e
  | .bl _ :: _, _, _, _, e => by cases e
  | .str _ :: _, _, _, _, e => by cases e
  | .tup _ :: _, _, _, _, e => by cases e
  | .ref _ :: _, _, _, _, e => by cases e
  | .raw _ :: _, _, _, _, e => by cases e
theorem allB_rep : ∀ {xs : List PV} {vs : List V} {ns : List Bool}, RepL K ι H xs vs → allB xs = some ns → vs = ns.map V.bl
  | [], _, _, r, e => by cases e; rw [show _ = [] from r]; rfl
  | .bl i :: xs, _, ns, ⟨v, r, e1, e2, e3⟩, e => by
    unfold allB at e
    cases q : allB xs with
    | none => rw [q] at e; cases e
    | some l => rw [q] at e; cases e; subst e1; cases e2; rw [allB_rep e3 q]; rfl
  | .non :: _, _, _, _, e => by cases e
  | .int _ :: _, _, _, _, e => by cases e
  | .str _ :: _, _, _, _, e => by cases e
  | .tup _ :: _, _, _, _, e => by cases e
  | .ref _ :: _, _, _, _, e => by cases e
  | .raw _ :: _, _, _, _, e => by cases e
theorem rep_ints : ∀ ns : List Int, RepL K ι H (ns.map .int) (ns.map V.int)
  | [] => rfl
  | _ :: r => .cons_ rfl (rep_ints r)
theorem one_rep {x : PV} {vs : List V} (r : RepL K ι H [x] vs) : ∃ v, vs = [v] ∧ Rep K ι H x v := by
  obtain ⟨v, t, e, h, e2⟩ := r
  rw [show t = [] from e2] at e
  exact ⟨v, e, h⟩
theorem two_rep {x y : PV} {vs : List V} (r : RepL K ι H [x, y] vs) : ∃ v u, vs = [v, u] ∧ Rep K ι H x v ∧ Rep K ι H y u := by
  obtain ⟨v, t, e, h, e2⟩ := r
  obtain ⟨u, rfl, h2⟩ := one_rep e2
  exact ⟨v, u, e, h, h2⟩
theorem getLI_sq {l : Nat} {ns : List Int} (h : HR K ι μ H) (e : (getL μ l).bind allI = some ns) : ∃ a, ι[l]? = some a ∧ SqL K H a (ns.map V.int) := by
  cases q : getL μ l with
  | none => rw [q] at e; cases e
  | some xs =>
    rw [q] at e
    obtain ⟨a, vs, h1, h2, h3, _⟩ := getL_sq h q
    rw [allI_rep h3 e] at h2
    exact ⟨a, h1, h2⟩
theorem getLB_sq {l : Nat} {ns : List Bool} (h : HR K ι μ H) (e : (getL μ l).bind allB = some ns) : ∃ a, ι[l]? = some a ∧ SqL K H a (ns.map V.bl) := by
  cases q : getL μ l with
  | none => rw [q] at e; cases e
  | some xs =>
    rw [q] at e
    obtain ⟨a, vs, h1, h2, h3, _⟩ := getL_sq h q
    rw [allB_rep h3 e] at h2
    exact ⟨a, h1, h2⟩
theorem al_abs : ApL K fAbs (fun xs H Q => ∃ i, xs = [.int i] ∧ Q (.int (if i < 0 then -i else i)) H) := by
  intro W ι μ H as xs Q hr ra h
  unfold fAbs at h
  split at h
  · obtain ⟨v, rfl, r⟩ := one_rep ra
    cases r
    exact ⟨_, rfl, h.ok hr rfl⟩
  · exact h.elim
def rLenG (K : PySem.W.Frag) : List V → Hp → VK → Prop := fun xs H Q => ∃ x n, xs = [x] ∧ LenV K x H n ∧ Q (.int n) H
theorem al_len : ApL K fLen (rLenG K) := by
  intro W ι μ H as xs Q hr ra h
  unfold fLen at h
  split at h
  · obtain ⟨v, rfl, r⟩ := one_rep ra
    obtain ⟨a, vs, rfl, s, r⟩ := r
    exact ⟨_, _, rfl, .inr ⟨vs, s, rfl⟩, by rw [r.length]; exact h.ok hr rfl⟩
  · rename_i l
    obtain ⟨v, rfl, r⟩ := one_rep ra
    split at h
    · rename_i ys q
      obtain ⟨a, vs, h1, h2, h3, _⟩ := getL_sq hr q
      obtain rfl := ref_eq r h1
      exact ⟨_, _, rfl, .inl ⟨vs, h2, rfl⟩, by rw [h3.length]; exact h.ok hr rfl⟩
    · exact h.elim
  · obtain ⟨v, rfl, r⟩ := one_rep ra
    cases r
    split at h
    · rename_i c
      exact ⟨_, _, rfl, ⟨by rw [← line_eq]; exact c, rfl⟩, h.ok hr rfl⟩
    · exact h.elim
  · exact h.elim
theorem al_int : ApL K fInt (fun xs H Q => (∃ i, xs = [.int i] ∧ Q (.int i) H) ∨ ∃ k, xs = [.bl k] ∧ Q (.int (if k then 1 else 0)) H) := by
  intro W ι μ H as xs Q hr ra h
  unfold fInt at h
  split at h
  · obtain ⟨v, rfl, r⟩ := one_rep ra
    cases r
    exact .inl ⟨_, rfl, h.ok hr rfl⟩
  · obtain ⟨v, rfl, r⟩ := one_rep ra
    cases r
    exact .inr ⟨_, rfl, h.ok hr rfl⟩
  · exact h.elim
def rMaxG (K : PySem.W.Frag) : List V → Hp → VK → Prop := fun xs H Q => (∃ i j, xs = [.int i, .int j] ∧ Q (.int (if j > i then j else i)) H) ∨ rMax K xs H Q
def rMinG (K : PySem.W.Frag) : List V → Hp → VK → Prop := fun xs H Q => (∃ i j, xs = [.int i, .int j] ∧ Q (.int (if j < i then j else i)) H) ∨ rMin K xs H Q
theorem call_maxG {X : Cx} (hc : X.calm = true) : CallR X (.builtin "max") (rMaxG X.K) := (call_max2 hc).or (cr_max hc)
theorem call_minG {X : Cx} (hc : X.calm = true) : CallR X (.builtin "min") (rMinG X.K) := (call_min2 hc).or (cr_min hc)
theorem al_max : ApL K fMax (rMaxG K) := by
  intro W ι μ H as xs Q hr ra h
  unfold fMax at h
  split at h
  · obtain ⟨v, u, rfl, r, r2⟩ := two_rep ra
    cases r; cases r2
    exact .inl ⟨_, _, rfl, h.ok hr rfl⟩
  · obtain ⟨v, rfl, r⟩ := one_rep ra
    split at h
    · rename_i m rr q
      obtain ⟨a, h1, h2⟩ := getLI_sq hr q
      obtain rfl := ref_eq r h1
      refine .inr ⟨a, _, rfl, h2, Nat.succ_pos _, fun z hz hz2 => ?_⟩
      obtain ⟨s1, s2, s3⟩ := maxI_spec rr m
      have e1 : z ≤ maxI m rr := by
        rcases List.mem_cons.mp hz with rfl | hz
        · exact s2
        · exact s3 z hz
      have e2 : maxI m rr ≤ z := hz2 _ (by
        rcases s1 with s1 | s1
        · rw [s1]; exact List.mem_cons_self
        · exact List.mem_cons_of_mem _ s1)
      have e3 : z = maxI m rr := by omega
      rw [e3]
      exact h.ok hr rfl
    · exact h.elim
  · exact h.elim
theorem al_min : ApL K fMin (rMinG K) := by
  intro W ι μ H as xs Q hr ra h
  unfold fMin at h
  split at h
  · obtain ⟨v, u, rfl, r, r2⟩ := two_rep ra
    cases r; cases r2
    exact .inl ⟨_, _, rfl, h.ok hr rfl⟩
  · obtain ⟨v, rfl, r⟩ := one_rep ra
    split at h
    · rename_i m rr q
      obtain ⟨a, h1, h2⟩ := getLI_sq hr q
      obtain rfl := ref_eq r h1
      refine .inr ⟨a, _, rfl, h2, Nat.succ_pos _, fun z hz hz2 => ?_⟩
      obtain ⟨s1, s2, s3⟩ := minI_spec rr m
      have e1 : minI m rr ≤ z := by
        rcases List.mem_cons.mp hz with rfl | hz
        · exact s2
        · exact s3 z hz
      have e2 : z ≤ minI m rr := hz2 _ (by
        rcases s1 with s1 | s1
        · rw [s1]; exact List.mem_cons_self
        · exact List.mem_cons_of_mem _ s1)
      have e3 : z = minI m rr := by omega
      rw [e3]
      exact h.ok hr rfl
    · exact h.elim
  · exact h.elim
def rSumT (K : PySem.W.Frag) : List V → Hp → VK → Prop := fun vs H Q => ∃ (a : Addr) (ns : List Int), vs = [V.ref a] ∧ SqT K H a (ns.map V.int) ∧ Q (.int ns.sum) H
theorem cr_sumT {X : Cx} (hc : X.calm = true) : CallR X (.builtin "sum") (rSumT X.K) := by
  intro pins s σ H vs us Q I r h
  obtain ⟨a, ns, rfl, hs, q⟩ := h
  obtain ⟨its, rv, hl, _⟩ := I.tuple hs
  rw [Vals.ref1 r]
  have hi := rv.ints
  obtain ⟨xs, e⟩ := hi.allInts.items
  have hn : numsOf (intItems xs).toList = ns := by rw [← e]; exact hi.numsOf
  rw [nums_intItems] at hn
  rw [e] at hl
  refine PySem.W.ktm_sumG (I.ok.hd hc) (show s.heap.IsTuple a (intItems xs) from hl) fun h' tk t' hk => ?_
  rw [preSum_eq, List.take_of_length_le (by simp), hn]
  exact ⟨.int ns.sum, H, I.kept hk, ⟨_, rfl⟩, q⟩
def rSumG (K : PySem.W.Frag) : List V → Hp → VK → Prop := fun xs H Q => rSum K xs H Q ∨ rSumT K xs H Q
theorem call_sumG {X : Cx} (hc : X.calm = true) : CallR X (.builtin "sum") (rSumG X.K) := (cr_sum hc).or (cr_sumT hc)
theorem al_sum : ApL K fSum (rSumG K) := by
  intro W ι μ H as xs Q hr ra h
  unfold fSum at h
  split at h
  · obtain ⟨v, rfl, a, vs, rfl, s, r⟩ := one_rep ra
    split at h
    · rename_i ns q
      rw [allI_rep r q] at s
      exact .inr ⟨a, ns, rfl, s, h.ok hr rfl⟩
    · exact h.elim
  · obtain ⟨v, rfl, r⟩ := one_rep ra
    split at h
    · rename_i ns q
      obtain ⟨a, h1, h2⟩ := getLI_sq hr q
      obtain rfl := ref_eq r h1
      exact .inl ⟨a, ns, rfl, h2, h.ok hr rfl⟩
    · exact h.elim
  · exact h.elim
theorem al_all : ApL K fAll (rAll K) := by
  intro W ι μ H as xs Q hr ra h
  unfold fAll at h
  split at h
  · obtain ⟨v, rfl, r⟩ := one_rep ra
    split at h
    · rename_i ns q
      obtain ⟨a, h1, h2⟩ := getLB_sq hr q
      obtain rfl := ref_eq r h1
      exact ⟨a, ns, rfl, h2, h.ok hr rfl⟩
    · exact h.elim
  · exact h.elim
theorem al_any : ApL K fAny (rAny K) := by
  intro W ι μ H as xs Q hr ra h
  unfold fAny at h
  split at h
  · obtain ⟨v, rfl, r⟩ := one_rep ra
    split at h
    · rename_i ns q
      obtain ⟨a, h1, h2⟩ := getLB_sq hr q
      obtain rfl := ref_eq r h1
      exact ⟨a, ns, rfl, h2, h.ok hr rfl⟩
    · exact h.elim
  · exact h.elim
def rListOf (K : PySem.W.Frag) : List V → Hp → VK → Prop := fun xs H Q => ∃ p ys, xs = [.ref p] ∧ (SqL K H p ys ∨ SqT K H p ys) ∧ ∀ l, H l = none → Q (.ref l) (upd H l (.lst ys))
def rTupleOf (K : PySem.W.Frag) : List V → Hp → VK → Prop := fun xs H Q => ∃ p ys, xs = [.ref p] ∧ ((SqL K H p ys ∧ ∀ l, H l = none → Q (.ref l) (upd H l (.tup ys))) ∨ (SqT K H p ys ∧ Q (.ref p) H))
theorem al_list : ApL K fList (rListOf K) := by
  intro W ι μ H as xs Q hr ra h
  unfold fList at h
  split at h
  · obtain ⟨v, rfl, a, vs, rfl, s, r⟩ := one_rep ra
    exact ⟨a, vs, rfl, .inr s, fun p hp => h.at_ (grow_alloc hp) (hr.alloc hp r) (alloc_ref hr)⟩
  · obtain ⟨v, rfl, r⟩ := one_rep ra
    split at h
    · rename_i ys q
      obtain ⟨a, vs, h1, h2, h3, _⟩ := getL_sq hr q
      obtain rfl := ref_eq r h1
      exact ⟨a, vs, rfl, .inl h2, fun p hp => h.at_ (grow_alloc hp) (hr.alloc hp h3) (alloc_ref hr)⟩
    · exact h.elim
  · exact h.elim
theorem al_tuple : ApL K fTuple (rTupleOf K) := by
  intro W ι μ H as xs Q hr ra h
  unfold fTuple at h
  split at h
  · obtain ⟨v, rfl, a, vs, rfl, s, r⟩ := one_rep ra
    exact ⟨a, vs, rfl, .inr ⟨s, h.ok hr ⟨a, vs, rfl, s, r⟩⟩⟩
  · obtain ⟨v, rfl, r⟩ := one_rep ra
    split at h
    · rename_i ys q
      obtain ⟨a, vs, h1, h2, h3, _⟩ := getL_sq hr q
      obtain rfl := ref_eq r h1
      exact ⟨a, vs, rfl, .inl ⟨h2, fun p hp => h.at_ (grow_new hp) (hr.new hp) ⟨p, _, rfl, .of upd_same, h3.grow (grow_new hp)⟩⟩⟩
    · exact h.elim
  · exact h.elim
/-- sorted of a list of one item, whatever it is -/
def rSorted1 (K : PySem.W.Frag) : List V → Hp → VK → Prop := fun vs H Q => ∃ (a : Addr) (y : V), vs = [V.ref a] ∧ SqL K H a [y] ∧ ∀ p : Addr, H p = none → Q (.ref p) (upd H p (.lst [y]))
theorem cr_sorted1 {X : Cx} : CallR X (.builtin "sorted") (rSorted1 X.K) := by
  intro pins s σ H vs us Q I r h
  obtain ⟨a, y, rfl, hs, q⟩ := h
  obtain ⟨its, rv, hl, hz⟩ := I.list hs
  have l1 : its.length = 1 := by rw [← rv.length]; rfl
  rw [Vals.ref1 r]
  refine SrtO.sorted_ord SrtO.swo_int hl.isList (by rw [l1]; decide) (fun h2 _ _ _ _ => absurd h2 (by omega)) fun out _ s2 => ?_
  have e : out = its := by
    match its, l1 with
    | [v], _ => exact List.perm_singleton.mp s2.perm
  subst e
  obtain ⟨ep, e2⟩ := PyProof.Rows.sortedAll_at s.heap out out.toArray
  exact ⟨.ref _, upd H (s.heap.objs.size + 1) (.lst [y]), I.laid (t' := s.toks) (fun _ _ => PyProof.Rows.sortedAll_old) (Nat.le_succ _) ⟨hz, out, ep, rv, e2⟩, rfl, q _ (I.hok.fresh (Nat.le_succ _))⟩
def rSortedG (K : PySem.W.Frag) : List V → Hp → VK → Prop := fun xs H Q => rSortedI K xs H Q ∨ rSorted1 K xs H Q
theorem cr_sortedG {X : Cx} : CallR X (.builtin "sorted") (rSortedG X.K) := cr_sortedI.or cr_sorted1
theorem al_sorted : ApL K fSorted (rSortedG K) := by
  intro W ι μ H as xs Q hr ra h
  unfold fSorted at h
  split at h
  · obtain ⟨v, rfl, r⟩ := one_rep ra
    split at h
    · rename_i ns q
      obtain ⟨a, h1, h2⟩ := getLI_sq hr q
      obtain rfl := ref_eq r h1
      refine .inl ⟨a, ns, rfl, h2, fun ys p hp hs hn => ?_⟩
      have e : ys = sortI ns := PySem.W.ksm_same (hp.trans (sortI_perm ns).symm) hs (sortI_sorted ns)
      rw [e]
      exact h.at_ (grow_alloc hn) (hr.alloc hn (rep_ints _)) (alloc_ref hr)
    · split at h
      · rename_i y q
        obtain ⟨a, vs, h1, h2, h3, _⟩ := getL_sq hr q
        obtain rfl := ref_eq r h1
        obtain ⟨v, us, rfl, r1, r2⟩ := h3
        cases us with
        | cons _ _ => exact absurd r2.length (by simp)
        | nil => exact .inr ⟨a, v, rfl, h2, fun p hn => h.at_ (grow_alloc hn) (hr.alloc hn (.cons_ r1 .nil_)) (alloc_ref hr)⟩
      · exact h.elim
  · exact h.elim
/-! ### isinstance -/
def tyN (x : PV) (μ : Mu) : Option String := match x with
  | .non => some "NoneType"
  | .bl _ => some "bool"
  | .int _ => some "int"
  | .str _ => some "str"
  | .tup _ => some "tuple"
  | .ref l => (getL μ l).map fun _ => "list"
  | .raw _ => none
def isTy (a b : String) : Option Bool := match a, b with
  | "NoneType", "int" => some false
  | "NoneType", "bool" => some false
  | "NoneType", "str" => some false
  | "NoneType", "list" => some false
  | "NoneType", "tuple" => some false
  | "NoneType", "dict" => some false
  | "bool", "int" => some true
  | "bool", "bool" => some true
  | "bool", "str" => some false
  | "bool", "list" => some false
  | "bool", "tuple" => some false
  | "bool", "dict" => some false
  | "int", "int" => some true
  | "int", "bool" => some false
  | "int", "str" => some false
  | "int", "list" => some false
  | "int", "tuple" => some false
  | "int", "dict" => some false
  | "str", "int" => some false
  | "str", "bool" => some false
  | "str", "str" => some true
  | "str", "list" => some false
  | "str", "tuple" => some false
  | "str", "dict" => some false
  | "list", "int" => some false
  | "list", "bool" => some false
  | "list", "str" => some false
  | "list", "list" => some true
  | "list", "tuple" => some false
  | "list", "dict" => some false
  | "tuple", "int" => some false
  | "tuple", "bool" => some false
  | "tuple", "str" => some false
  | "tuple", "list" => some false
  | "tuple", "tuple" => some true
  | "tuple", "dict" => some false
  | _, _ => none
theorem isTy_ok {a b : String} {r : Bool} (h : isTy a b = some r) : kitB a b = some r := by
  unfold isTy at h
  split at h <;> first | (cases h; decide +kernel) | cases h
def isTyL (a : String) : List String → Option Bool
  | [] => some false
  | b :: r => match isTy a b, isTyL a r with
    | some x, some y => some (x || y)
    | _, _ => none
def fIsi (b : String) (x : PV) (μ : Mu) : R PV := match (tyN x μ).bind fun a => isTy a b with
  | some k => .ok (.bl k) μ
  | none => .bad
def fIsiL (cs : List String) (x : PV) (μ : Mu) : R PV := match (tyN x μ).bind fun a => isTyL a cs with
  | some k => .ok (.bl k) μ
  | none => .bad
theorem tyN_ok {x : PV} {v : V} {a : String} (hr : HR K ι μ H) (r : Rep K ι H x v) (e : tyN x μ = some a) : TyX K H v (.type a) := by
  cases x with
  | non => cases e; cases r; exact .base .non
  | bl _ => cases e; cases r; exact .base (.bl _)
  | int _ => cases e; cases r; exact .base (.int _)
  | str _ => cases e; cases r; exact .base (.str _)
  | tup _ =>
    cases e
    obtain ⟨p, vs, rfl, s, _⟩ := r
    rcases s with (s | ⟨o, s⟩) | ⟨o, its, n, h1, h2, _⟩
    · exact .base (.tup s)
    · exact .fTuple s
    · exact .kTuple h1 h2
  | ref l =>
    unfold tyN at e
    simp only at e
    cases q : getL μ l with
    | none => rw [q] at e; cases e
    | some xs =>
      rw [q] at e
      cases e
      obtain ⟨p, vs, h1, _, _, h4⟩ := getL_sq hr q
      obtain rfl := ref_eq r h1
      rcases h4 with h4 | ⟨o, h4⟩ | ⟨o, its, n, k1, k2, _⟩
      · exact .base (.lst h4)
      · exact .base (.frz h4)
      · exact .kList k1 k2
  | raw _ => cases e
theorem isTyL_ok {a : String} : ∀ {cs : List String} {k : Bool}, isTyL a cs = some k → PySem.W.kitAny K (.type a) (cs.map .type) = some k
  | [], _, e => by cases e; exact kitAny_nil
  | b :: cs, k, e => by
    unfold isTyL at e
    cases q : isTy a b with
    | none => rw [q] at e; cases e
    | some m => cases q2 : isTyL a cs with
      | none => rw [q, q2] at e; cases e
      | some n =>
        rw [q, q2] at e
        cases e
        exact kitAny_cons (kit_ty (isTy_ok q)) (fun z => by rw [z, Bool.false_or]; exact isTyL_ok q2) (fun z => by rw [z, Bool.true_or])
theorem clsV_all : ∀ cs : List String, Paired ClsV (cs.map V.ty) (cs.map Value.type)
  | [] => .nil
  | b :: r => .cons (.ty b) (clsV_all r)
end
section
variable {X : Cx} {W : WS} {a : Expr} {da : Dn PV} {pos p : Pos} {es : List Expr}
/-- written classes in a row -/
def tCs (cs : List String) : TA := fun _ H Q => Q (cs.map V.ty) H
theorem c_nil : PA X [] (tCs []) := pa_nil.mono fun σ H Q h => h
theorem c_cons {x : Str} {T : String} {cs : List String} {q : Pos} (hg : Gl X x) (hm : X.mg x = none) (hv : bootBuiltins x = some (.type T)) (hr : PA X es (tCs cs)) (hn : x ≠ "__name__" := by decide) (hd : (x == ("__debug__" : Str)) = false := by decide)
    (hs : starEach (.Name x q :: es) X.env = (false, eval (.Name x q) X.env) :: starEach es X.env := by rfl) : PA X (.Name x q :: es) (tCs (T :: cs)) :=
  (pa_cons (pe_bltn (v := .ty T) hg hm hv rfl hn hd) hr hs).mono fun σ H Q h => h
theorem e_isi {T : String} {e : Expr} (hg : Gl X "isinstance") (hm : X.mg "isinstance" = none) (ha : PE X a (LE X.K W da)) (ht : PA X [e] (tCs [T]))
    (he : starEach (a :: [e]) X.env = (false, eval a X.env) :: starEach [e] X.env := by rfl) (hpl : (backTo pos (starEach [e] X.env)).any (·.1) = false := by rfl) : PE X (.Call (.Name "isinstance" p) (a :: [e]) [] pos) (LE X.K W (dUn (fIsi T) da)) := by
  refine (pe_callB call_isi hg hm (by decide +kernel) (pa_cons ha ht he) (by decide) (by decide) he hpl).mono fun σ H Q ⟨ρ, μ, ι, sr, hr, h⟩ => ?_
  refine ⟨ρ, μ, ι, sr, hr, Post.mono (Post.bind h) ?_⟩
  rintro v H1 ⟨x, μ1, ι1, g1, hr1, r1, h1⟩
  unfold fIsi at h1
  cases q : tyN x μ1 with
  | none => rw [q] at h1; exact h1.elim
  | some t =>
    cases q2 : isTy t T with
    | none => rw [q, Option.bind_some, q2] at h1; exact h1.elim
    | some k =>
      rw [q, Option.bind_some, q2] at h1
      exact ⟨v, .ty T, .type t, .type T, k, rfl, .ty T, tyN_ok hr1 r1 q, kit_ty (isTy_ok q2), h1.ok hr1 rfl⟩
theorem e_isiL {cs : List String} {ts : List Expr} {k : Nat} {p2 : Pos} (hg : Gl X "isinstance") (hm : X.mg "isinstance" = none) (ha : PE X a (LE X.K W da)) (ht : PA X ts (tCs cs)) (hc : cs.length ≤ 10)
    (he : starEach (a :: [.Tuple ts k p2]) X.env = (false, eval a X.env) :: starEach [.Tuple ts k p2] X.env := by rfl) (he2 : starEach (.Tuple ts k p2 :: []) X.env = (false, eval (.Tuple ts k p2) X.env) :: starEach [] X.env := by rfl) (hpl : (backTo pos (starEach [.Tuple ts k p2] X.env)).any (·.1) = false := by rfl) :
    PE X (.Call (.Name "isinstance" p) (a :: [.Tuple ts k p2]) [] pos) (LE X.K W (dUn (fIsiL cs) da)) := by
  refine (pe_callB call_isiT hg hm (by decide +kernel) (pa_cons ha (pa_cons (pe_tup ht) pa_nil he2) he) (by decide) (by decide) he hpl).mono fun σ H Q ⟨ρ, μ, ι, sr, hr, h⟩ => ?_
  refine ⟨ρ, μ, ι, sr, hr, Post.mono (Post.bind h) ?_⟩
  rintro v H1 ⟨x, μ1, ι1, g1, hr1, r1, h1⟩
  unfold fIsiL at h1
  cases q : tyN x μ1 with
  | none => rw [q] at h1; exact h1.elim
  | some t =>
    cases q2 : isTyL t cs with
    | none => rw [q, Option.bind_some, q2] at h1; exact h1.elim
    | some k =>
      rw [q, Option.bind_some, q2] at h1
      refine ⟨by rw [List.length_map, sizeLine_eq]; omega, fun p hp => ?_⟩
      have g2 : Grow X.K ι1 H1 ι1 (upd H1 p (.tup (cs.map V.ty))) := grow_new hp
      exact ⟨v, p, cs.map V.ty, .type t, cs.map Value.type, k, rfl, upd_same, clsV_all cs, tyN_ok (hr1.new hp) (r1.grow g2) q, isTyL_ok q2, h1.at_ g2 (hr1.new hp) rfl⟩
end
end GB
set_option Elab.async false
set_option linter.all false
set_option maxRecDepth 100000
set_option maxHeartbeats 2000000
namespace GB
open PySem PySem.Spec PyProof.Rows L2
/-! ### built-ins by name -/
section
variable {X : Cx} {W : WS} {a b : Expr} {da db : Dn PV} {es : List Expr} {dl : Dn (List PV)} {pos p : Pos}
theorem e_abs (hm : X.mg "abs" = none) (ha : PA X (a :: es) (LA X.K W dl)) (hg : Gl X "abs" := by rfl) (he : starEach (a :: es) X.env = (false, eval a X.env) :: starEach es X.env := by rfl) (hpl : (backTo pos (starEach es X.env)).any (·.1) = false := by rfl) : PE X (.Call (.Name "abs" p) (a :: es) [] pos) (LE X.K W (dApp fAbs dl)) := e_callB call_abs al_abs hg hm (by decide +kernel) ha (by decide) (by decide) he hpl
theorem e_len (hm : X.mg "len" = none) (ha : PA X (a :: es) (LA X.K W dl)) (hg : Gl X "len" := by rfl) (he : starEach (a :: es) X.env = (false, eval a X.env) :: starEach es X.env := by rfl) (hpl : (backTo pos (starEach es X.env)).any (·.1) = false := by rfl) : PE X (.Call (.Name "len" p) (a :: es) [] pos) (LE X.K W (dApp fLen dl)) := e_callB (r := rLenG X.K) call_len al_len hg hm PySem.boot_len ha (by decide) (by decide) he hpl
theorem e_intc (hm : X.mg "int" = none) (ha : PA X (a :: es) (LA X.K W dl)) (hg : Gl X "int" := by rfl) (he : starEach (a :: es) X.env = (false, eval a X.env) :: starEach es X.env := by rfl) (hpl : (backTo pos (starEach es X.env)).any (·.1) = false := by rfl) : PE X (.Call (.Name "int" p) (a :: es) [] pos) (LE X.K W (dApp fInt dl)) := e_callTy call_int1 al_int hg hm (by decide +kernel) ha (by decide) (by decide) he hpl
theorem e_max (hm : X.mg "max" = none) (ha : PA X (a :: es) (LA X.K W dl)) (hc : X.calm = true := by rfl) (hg : Gl X "max" := by rfl) (he : starEach (a :: es) X.env = (false, eval a X.env) :: starEach es X.env := by rfl) (hpl : (backTo pos (starEach es X.env)).any (·.1) = false := by rfl) : PE X (.Call (.Name "max" p) (a :: es) [] pos) (LE X.K W (dApp fMax dl)) := e_callB (call_maxG hc) al_max hg hm (by decide +kernel) ha (by decide) (by decide) he hpl
theorem e_min (hm : X.mg "min" = none) (ha : PA X (a :: es) (LA X.K W dl)) (hc : X.calm = true := by rfl) (hg : Gl X "min" := by rfl) (he : starEach (a :: es) X.env = (false, eval a X.env) :: starEach es X.env := by rfl) (hpl : (backTo pos (starEach es X.env)).any (·.1) = false := by rfl) : PE X (.Call (.Name "min" p) (a :: es) [] pos) (LE X.K W (dApp fMin dl)) := e_callB (call_minG hc) al_min hg hm (by decide +kernel) ha (by decide) (by decide) he hpl
theorem e_sum (hm : X.mg "sum" = none) (ha : PA X (a :: es) (LA X.K W dl)) (hc : X.calm = true := by rfl) (hg : Gl X "sum" := by rfl) (he : starEach (a :: es) X.env = (false, eval a X.env) :: starEach es X.env := by rfl) (hpl : (backTo pos (starEach es X.env)).any (·.1) = false := by rfl) : PE X (.Call (.Name "sum" p) (a :: es) [] pos) (LE X.K W (dApp fSum dl)) := e_callB (call_sumG hc) al_sum hg hm (by decide +kernel) ha (by decide) (by decide) he hpl
theorem e_all (hm : X.mg "all" = none) (ha : PA X (a :: es) (LA X.K W dl)) (hc : X.calm = true := by rfl) (hg : Gl X "all" := by rfl) (he : starEach (a :: es) X.env = (false, eval a X.env) :: starEach es X.env := by rfl) (hpl : (backTo pos (starEach es X.env)).any (·.1) = false := by rfl) : PE X (.Call (.Name "all" p) (a :: es) [] pos) (LE X.K W (dApp fAll dl)) := e_callB (cr_all hc) al_all hg hm (by decide +kernel) ha (by decide) (by decide) he hpl
theorem e_any (hm : X.mg "any" = none) (ha : PA X (a :: es) (LA X.K W dl)) (hc : X.calm = true := by rfl) (hg : Gl X "any" := by rfl) (he : starEach (a :: es) X.env = (false, eval a X.env) :: starEach es X.env := by rfl) (hpl : (backTo pos (starEach es X.env)).any (·.1) = false := by rfl) : PE X (.Call (.Name "any" p) (a :: es) [] pos) (LE X.K W (dApp fAny dl)) := e_callB (cr_any hc) al_any hg hm (by decide +kernel) ha (by decide) (by decide) he hpl
theorem e_sorted (hm : X.mg "sorted" = none) (ha : PA X (a :: es) (LA X.K W dl)) (hg : Gl X "sorted" := by rfl) (he : starEach (a :: es) X.env = (false, eval a X.env) :: starEach es X.env := by rfl) (hpl : (backTo pos (starEach es X.env)).any (·.1) = false := by rfl) : PE X (.Call (.Name "sorted" p) (a :: es) [] pos) (LE X.K W (dApp fSorted dl)) := e_callB cr_sortedG al_sorted hg hm (by decide +kernel) ha (by decide) (by decide) he hpl
theorem e_list (hm : X.mg "list" = none) (ha : PA X (a :: es) (LA X.K W dl)) (hg : Gl X "list" := by rfl) (he : starEach (a :: es) X.env = (false, eval a X.env) :: starEach es X.env := by rfl) (hpl : (backTo pos (starEach es X.env)).any (·.1) = false := by rfl) : PE X (.Call (.Name "list" p) (a :: es) [] pos) (LE X.K W (dApp fList dl)) := e_callTy (r := rListOf X.K) call_list_of al_list hg hm (by decide +kernel) ha (by decide) (by decide) he hpl
theorem e_tuple (hm : X.mg "tuple" = none) (ha : PA X (a :: es) (LA X.K W dl)) (hg : Gl X "tuple" := by rfl) (he : starEach (a :: es) X.env = (false, eval a X.env) :: starEach es X.env := by rfl) (hpl : (backTo pos (starEach es X.env)).any (·.1) = false := by rfl) : PE X (.Call (.Name "tuple" p) (a :: es) [] pos) (LE X.K W (dApp fTuple dl)) := e_callTy (r := rTupleOf X.K) call_tuple_of al_tuple hg hm (by decide +kernel) ha (by decide) (by decide) he hpl
end
/-! ### methods of lists -/
def dMeth (f : PV → List PV → Mu → R PV) (a : Dn PV) (l : Dn (List PV)) : Dn PV := fun ρ μ => (a ρ μ).bind fun x μ => match x with
  | .ref k => match getL μ k with
    | some _ => (l ρ μ).bind fun ys μ => f (.ref k) ys μ
    | none => .bad
  | _ => .bad
def dMeth0 (f : PV → List PV → Mu → R PV) (a : Dn PV) : Dn PV := fun ρ μ => (a ρ μ).bind fun x μ => match x with
  | .ref k => match getL μ k with
    | some _ => f (.ref k) [] μ
    | none => .bad
  | _ => .bad
def fAppend (x : PV) (ys : List PV) (μ : Mu) : R PV := match x, ys with
  | .ref l, [y] => match getM μ l with
    | some xs => if xs.length < 16777216 then .ok .non (μ.set l (.lst (xs ++ [y]))) else .bad
    | none => .bad
  | _, _ => .bad
def fExtend (x : PV) (ys : List PV) (μ : Mu) : R PV := match x, ys with
  | .ref l, [.ref m] => match getM μ l, getM μ m with
    | some xs, some zs => if xs.length + zs.length ≤ 16777216 then .ok .non (μ.set l (.lst (xs ++ zs))) else .bad
    | _, _ => .bad
  | _, _ => .bad
def fPop (x : PV) (ys : List PV) (μ : Mu) : R PV := match x, ys with
  | .ref l, [] => match getM μ l with
    | some xs => match xs[xs.length - 1]? with
      | some y => .ok y (μ.set l (.lst xs.dropLast))
      | none => .bad
    | none => .bad
  | _, _ => .bad
/-- a method's rule told over my values -/
def MtL (K : PySem.W.Frag) (f : PV → List PV → Mu → R PV) (r : V → List V → Hp → VK → Prop) : Prop := ∀ (W : WE) ι μ H a as x xs Q, HR K ι μ H → Rep K ι H a x → RepL K ι H as xs → Post K W (fun ι H => Rep K ι H) ι H (f a as μ) Q → r x xs H Q
section
variable {K : PySem.W.Frag} {W : WS}
theorem ml_append : MtL K fAppend rAppend := by
  intro W ι μ H a as x xs Q hr ra ras h
  unfold fAppend at h
  split at h
  · obtain ⟨v, rfl, r1⟩ := one_rep ras
    split at h
    · rename_i q
      split at h
      · rename_i c
        obtain ⟨p, vs, h1, h2, h3⟩ := getM_at hr q
        obtain rfl := ref_eq ra h1
        exact ⟨p, vs, v, rfl, rfl, h2, by rw [h3.length, ← line_eq]; exact c, h.at_ (grow_write h1 h2) (hr.write (getM_of q) h1 h2 (h3.append (.cons_ r1 .nil_))) rfl⟩
      · exact h.elim
    · exact h.elim
  · exact h.elim
theorem ml_extend : MtL K fExtend rExtend := by
  intro W ι μ H a as x xs Q hr ra ras h
  unfold fExtend at h
  split at h
  · obtain ⟨v, rfl, r1⟩ := one_rep ras
    split at h
    · rename_i q1 q2
      split at h
      · rename_i c
        obtain ⟨p, vs, h1, h2, h3⟩ := getM_at hr q1
        obtain ⟨p2, vs2, i1, i2, i3⟩ := getM_at hr q2
        obtain rfl := ref_eq ra h1
        obtain rfl := ref_eq r1 i1
        exact ⟨p, p2, vs, vs2, rfl, rfl, h2, i2, by rw [h3.length, i3.length, ← line_eq]; exact c, h.at_ (grow_write h1 h2) (hr.write (getM_of q1) h1 h2 (h3.append i3)) rfl⟩
      · exact h.elim
    · exact h.elim
  · exact h.elim
theorem ml_pop : MtL K fPop rPop := by
  intro W ι μ H a as x xs Q hr ra ras h
  unfold fPop at h
  split at h
  · rw [show xs = [] from ras]
    split at h
    · rename_i ys q
      split at h
      · rename_i y e
        obtain ⟨p, vs, h1, h2, h3⟩ := getM_at hr q
        obtain rfl := ref_eq ra h1
        obtain ⟨u, e1, e2⟩ := h3.get e
        have hd : RepL K ι H ys.dropLast vs.dropLast := by
          rw [List.dropLast_eq_take, List.dropLast_eq_take, h3.length]
          exact h3.take _
        exact ⟨p, vs, u, rfl, rfl, h2, by rw [h3.length]; exact e1, h.at_ (grow_write h1 h2) (hr.write (getM_of q) h1 h2 hd) (e2.grow (grow_write h1 h2))⟩
      · exact h.elim
    · exact h.elim
  · exact h.elim
theorem tyV_list {ι : List Addr} {μ : Mu} {H : Hp} {l : Nat} {xs : List PV} {v : V} (hr : HR K ι μ H) (e : getL μ l = some xs) (r : Rep K ι H (.ref l) v) : tyV K "list" v H := by
  obtain ⟨a, vs, h1, h2, _⟩ := getL_sq hr e
  obtain rfl := ref_eq r h1
  exact .inl ⟨rfl, vs, h2⟩
end
section
variable {X : Cx} {W : WS} {o e : Expr} {da : Dn PV} {es : List Expr} {dl : Dn (List PV)} {apos cpos : Pos} {name : Str} {id : String} {f : PV → List PV → Mu → R PV} {r : V → List V → Hp → VK → Prop}
theorem e_meth (slot : Slot "list" name id) (hty : typeOf (.builtin id) = pure (.type "method_descriptor")) (hm : MtR X id r) (hl : MtL X.K f r) (ho : PE X o (LE X.K W da)) (ha : PA X (e :: es) (LA X.K W dl))
    (hbase : attributeBase o name X.env (eval o X.env) = eval o X.env := by rfl)
    (hfew : ((backTo cpos (starEach (e :: es) X.env)).all (fun x => !x.1) && (backToKw cpos (keywordEach [] X.env)).all (fun x => x.1.isSome)
      && decide ((e :: es).length + ([] : List Keyword).length + (if ([] : List Keyword).isEmpty then 0 else 1) < 30)) = true := by rfl)
    (hline : (apos.endLine == cpos.line) = true := by rfl) (hs : starEach (e :: es) X.env = (false, eval e X.env) :: starEach es X.env := by rfl) (hplain : (backTo cpos (starEach es X.env)).any (·.1) = false := by rfl) :
    PE X (.Call (.Attribute o name apos) (e :: es) [] cpos) (LE X.K W (dMeth f da dl)) := by
  refine (pe_bm PySem.F.plainAttrs_list slot hty hm ho ha hbase hfew hline hs hplain).mono fun σ H Q ⟨ρ, μ, ι, sr, hr, h⟩ => ?_
  refine ⟨ρ, μ, ι, sr, hr, Post.mono (Post.bind h) ?_⟩
  rintro v H1 ⟨x, μ1, ι1, g1, hr1, r1, h1⟩
  cases x with
  | ref k =>
    simp only at h1
    cases q : getL μ1 k with
    | none => rw [q] at h1; exact h1.elim
    | some xs =>
      rw [q] at h1
      refine ⟨tyV_list hr1 q r1, ρ, μ1, ι1, sr.grow g1, hr1, Post.mono (Post.bind h1) ?_⟩
      rintro u H2 ⟨y, μ2, ι2, g2, hr2, r2, h2⟩
      exact hl _ _ _ _ _ _ _ _ _ hr2 (r1.grow g2) r2 h2
  | _ => exact h1.elim
theorem e_meth0 (slot : Slot "list" name id) (hty : typeOf (.builtin id) = pure (.type "method_descriptor")) (hm : MtR X id r) (hl : MtL X.K f r) (ho : PE X o (LE X.K W da))
    (hbase : attributeBase o name X.env (eval o X.env) = eval o X.env := by rfl) (hline : (apos.endLine == cpos.line) = true := by rfl) :
    PE X (.Call (.Attribute o name apos) [] [] cpos) (LE X.K W (dMeth0 f da)) := by
  refine (pe_bm0 PySem.F.plainAttrs_list slot hty hm ho hbase hline).mono fun σ H Q ⟨ρ, μ, ι, sr, hr, h⟩ => ?_
  refine ⟨ρ, μ, ι, sr, hr, Post.mono (Post.bind h) ?_⟩
  rintro v H1 ⟨x, μ1, ι1, g1, hr1, r1, h1⟩
  cases x with
  | ref k =>
    simp only at h1
    cases q : getL μ1 k with
    | none => rw [q] at h1; exact h1.elim
    | some xs =>
      rw [q] at h1
      exact ⟨tyV_list hr1 q r1, hl _ _ _ _ _ _ _ _ _ hr1 r1 .nil_ h1⟩
  | _ => exact h1.elim
theorem e_append (ho : PE X o (LE X.K W da)) (ha : PA X (e :: es) (LA X.K W dl))
    (hbase : attributeBase o "append" X.env (eval o X.env) = eval o X.env := by rfl)
    (hfew : ((backTo cpos (starEach (e :: es) X.env)).all (fun x => !x.1) && (backToKw cpos (keywordEach [] X.env)).all (fun x => x.1.isSome)
      && decide ((e :: es).length + ([] : List Keyword).length + (if ([] : List Keyword).isEmpty then 0 else 1) < 30)) = true := by rfl)
    (hline : (apos.endLine == cpos.line) = true := by rfl) (hs : starEach (e :: es) X.env = (false, eval e X.env) :: starEach es X.env := by rfl) (hplain : (backTo cpos (starEach es X.env)).any (·.1) = false := by rfl) :
    PE X (.Call (.Attribute o "append" apos) (e :: es) [] cpos) (LE X.K W (dMeth fAppend da dl)) := e_meth PySem.F.slot_list_append PySem.F.type_list_append mt_append ml_append ho ha hbase hfew hline hs hplain
theorem e_extend (ho : PE X o (LE X.K W da)) (ha : PA X (e :: es) (LA X.K W dl))
    (hbase : attributeBase o "extend" X.env (eval o X.env) = eval o X.env := by rfl)
    (hfew : ((backTo cpos (starEach (e :: es) X.env)).all (fun x => !x.1) && (backToKw cpos (keywordEach [] X.env)).all (fun x => x.1.isSome)
      && decide ((e :: es).length + ([] : List Keyword).length + (if ([] : List Keyword).isEmpty then 0 else 1) < 30)) = true := by rfl)
    (hline : (apos.endLine == cpos.line) = true := by rfl) (hs : starEach (e :: es) X.env = (false, eval e X.env) :: starEach es X.env := by rfl) (hplain : (backTo cpos (starEach es X.env)).any (·.1) = false := by rfl) :
    PE X (.Call (.Attribute o "extend" apos) (e :: es) [] cpos) (LE X.K W (dMeth fExtend da dl)) := e_meth PySem.F.slot_list_extend PySem.F.type_list_extend mt_extend ml_extend ho ha hbase hfew hline hs hplain
theorem e_pop (ho : PE X o (LE X.K W da)) (hbase : attributeBase o "pop" X.env (eval o X.env) = eval o X.env := by rfl) (hline : (apos.endLine == cpos.line) = true := by rfl) :
    PE X (.Call (.Attribute o "pop" apos) [] [] cpos) (LE X.K W (dMeth0 fPop da)) := e_meth0 PySem.F.slot_list_pop PySem.F.type_list_pop mt_pop ml_pop ho hbase hline
end

/-! ### statements -/
inductive O where
  | nx (ρ : Rho) (μ : Mu)
  | rt (v : PV) (μ : Mu)
  | bk (ρ : Rho) (μ : Mu)
  | ct (ρ : Rho) (μ : Mu)
  | exc (e : Ex) (ρ : Rho) (μ : Mu)
  | bad
abbrev DS := Rho → Mu → O
def R.thn {α : Type} (r : R α) (ρ : Rho) (f : α → Mu → O) : O := match r with
  | .ok a μ => f a μ
  | .exc e μ => .exc e ρ μ
  | .bad => .bad
@[simp] theorem R.thn_ok {α : Type} {a : α} {μ : Mu} {ρ : Rho} {f : α → Mu → O} : (R.ok a μ).thn ρ f = f a μ := ndf rfl
@[simp] theorem R.thn_exc {α : Type} {e : Ex} {μ : Mu} {ρ : Rho} {f : α → Mu → O} : (R.exc e μ : R α).thn ρ f = .exc e ρ μ := ndf rfl
@[simp] theorem R.thn_bad {α : Type} {ρ : Rho} {f : α → Mu → O} : (R.bad : R α).thn ρ f = .bad := ndf rfl
def PostS (K : PySem.W.Frag) (W : WS) (ι : List Addr) (H : Hp) (r : O) (D : Ends) : Prop := match r with
  | .nx ρ' μ' => ∀ σ' ι' H', Grow K ι H ι' H' → HR K ι' μ' H' → SR K ι' H' ρ' σ' → D.nx σ' H'
  | .bk ρ' μ' => ∀ σ' ι' H', Grow K ι H ι' H' → HR K ι' μ' H' → SR K ι' H' ρ' σ' → D.bk σ' H'
  | .ct ρ' μ' => ∀ σ' ι' H', Grow K ι H ι' H' → HR K ι' μ' H' → SR K ι' H' ρ' σ' → D.ct σ' H'
  | .rt v μ' => ∀ u ι' H', Grow K ι H ι' H' → HR K ι' μ' H' → Rep K ι' H' v u → D.rt u H'
  | .exc e ρ' μ' => ∀ σ' ι' H', Grow K ι H ι' H' → HR K ι' μ' H' → SR K ι' H' ρ' σ' → W σ' e ι' μ' H'
  | .bad => False
theorem PostS.rebase {K : PySem.W.Frag} {W : WS} {ι ι1 : List Addr} {H H1 : Hp} {r : O} {D : Ends} (h : PostS K W ι H r D) (g : Grow K ι H ι1 H1) : PostS K W ι1 H1 r D := by
  cases r with
  | nx ρ μ => exact fun σ' ι' H' g' hr sr => h σ' ι' H' (g.trans g') hr sr
  | bk ρ μ => exact fun σ' ι' H' g' hr sr => h σ' ι' H' (g.trans g') hr sr
  | ct ρ μ => exact fun σ' ι' H' g' hr sr => h σ' ι' H' (g.trans g') hr sr
  | rt ρ μ => exact fun σ' ι' H' g' hr sr => h σ' ι' H' (g.trans g') hr sr
  | exc e ρ μ => exact fun σ' ι' H' g' hr sr => h σ' ι' H' (g.trans g') hr sr
  | bad => exact h
/-- what an expression's result leads to -/
theorem Post.thn {α β : Type} {K : PySem.W.Frag} {W : WS} {Rr : List Addr → Hp → α → β → Prop} {ι : List Addr} {H : Hp} {σ : L2.St} {ρ : Rho} {r : R α} {f : α → Mu → O} {D : Ends} (sr : SR K ι H ρ σ) (h : PostS K W ι H (r.thn ρ f) D) :
    Post K (W σ) Rr ι H r fun v H1 => ∃ a μ1 ι1, Grow K ι H ι1 H1 ∧ HR K ι1 μ1 H1 ∧ Rr ι1 H1 a v ∧ SR K ι1 H1 ρ σ ∧ PostS K W ι1 H1 (f a μ1) D := by
  cases r with
  | ok a μ => exact fun v ι' H' g hr rr => ⟨a, μ, ι', g, hr, rr, sr.grow g, PostS.rebase h g⟩
  | exc e μ => exact fun ι' H' g hr => h σ ι' H' g hr (sr.grow g)
  | bad => exact h
def LS (K : PySem.W.Frag) (W : WS) (d : DS) : TS := fun D σ H => ∃ ρ μ ι, SR K ι H ρ σ ∧ HR K ι μ H ∧ PostS K W ι H (d ρ μ) D
def dSkip : DS := fun ρ μ => .nx ρ μ
def dSeq (a b : DS) : DS := fun ρ μ => match a ρ μ with
  | .nx ρ μ => b ρ μ
  | o => o
def dDrop (a : Dn PV) : DS := fun ρ μ => (a ρ μ).thn ρ fun _ μ => .nx ρ μ
def dRet (a : Dn PV) : DS := fun ρ μ => (a ρ μ).thn ρ fun v μ => .rt v μ
def dRetN : DS := fun _ μ => .rt .non μ
def dBrk : DS := fun ρ μ => .bk ρ μ
def dCnt : DS := fun ρ μ => .ct ρ μ
def dNever : DS := fun _ _ => .bad
def dIfS (t : Dn Bool) (a b : DS) : DS := fun ρ μ => (t ρ μ).thn ρ fun k μ => if k = true then a ρ μ else b ρ μ
/-- targets -/
abbrev DG := PV → Rho → Mu → R Rho
def gN (i : Nat) : DG := fun v ρ μ => .ok (ρ.set i (some v)) μ
abbrev DGs := List PV → Rho → Mu → R Rho
def gsN : DGs := fun vs ρ μ => match vs with
  | [] => .ok ρ μ
  | _ => .bad
def gsC (g : DG) (gs : DGs) : DGs := fun vs ρ μ => match vs with
  | v :: r => (g v ρ μ).bind fun ρ μ => gs r ρ μ
  | [] => .bad
def gT (n : Nat) (g : DGs) : DG := fun v ρ μ => match v with
  | .tup xs => if xs.length = n then g xs ρ μ else .bad
  | _ => .bad
def gSubL (a b : Dn PV) : DG := fun v ρ μ => (a ρ μ).bind fun o μ => (b ρ μ).bind fun i μ => match o, i with
  | .ref l, .int k => match getM μ l with
    | some xs => match ixN xs.length k with
      | some j => .ok ρ (μ.set l (.lst (xs.set j v)))
      | none => .bad
    | none => .bad
  | _, _ => .bad
def dAsg (a : Dn PV) (g : DG) : DS := fun ρ μ => (a ρ μ).thn ρ fun v μ => match g v ρ μ with
  | .ok ρ' μ' => .nx ρ' μ'
  | _ => .bad
def dPar (i j : Nat) (a : Dn (List PV)) : DS := fun ρ μ => (a ρ μ).thn ρ fun vs μ => match vs with
  | [v, w] => .nx ((ρ.set i (some v)).set j (some w)) μ
  | _ => .bad
def dPar3 (i j k : Nat) (a : Dn (List PV)) : DS := fun ρ μ => (a ρ μ).thn ρ fun vs μ => match vs with
  | [v, w, z] => .nx (((ρ.set i (some v)).set j (some w)).set k (some z)) μ
  | _ => .bad
def dAugI (f : Int → Int → Int) (i : Nat) (a : Dn PV) : DS := fun ρ μ => match ρ[i]? with
  | some (some (.int x)) => (a ρ μ).thn ρ fun v μ => match v with
    | .int y => .nx (ρ.set i (some (.int (f x y)))) μ
    | _ => .bad
  | _ => .bad
/-- while, with a lid of turns -/
def dWhileN (t : Dn Bool) (b : DS) : Nat → DS
  | 0 => fun _ _ => .bad
  | n + 1 => fun ρ μ => (t ρ μ).thn ρ fun k μ => if k = true then (match b ρ μ with
    | .nx ρ μ => dWhileN t b n ρ μ
    | .ct ρ μ => dWhileN t b n ρ μ
    | .bk ρ μ => .nx ρ μ
    | o => o) else .nx ρ μ
def lid : Nat := 1180591620717411303424
def dWhile (t : Dn Bool) (b : DS) : DS := dWhileN t b lid
section
variable {X : Cx} {W : WS} {a b e : Expr} {da db : Dn PV} {es : List Expr} {dl : Dn (List PV)} {pos p : Pos} {st : Stmt} {rest : List Stmt} {d1 d2 : DS} {ba : Dn Bool}
theorem ss_nil : PSs X [] (LS X.K W dSkip) := pss_nil.mono fun D σ H ⟨ρ, μ, ι, sr, hr, h⟩ => h σ ι H .refl hr sr
theorem seq_ok {K : PySem.W.Frag} {ι : List Addr} {H : Hp} {ρ : Rho} {μ : Mu} {D : Ends} (h : PostS K W ι H (dSeq d1 d2 ρ μ) D) : PostS K W ι H (d1 ρ μ) { D with nx := LS K W d2 D } := by
  unfold dSeq at h
  cases q : d1 ρ μ with
  | nx ρ' μ' => rw [q] at h; exact fun σ' ι' H' g hr sr => ⟨ρ', μ', ι', sr, hr, PostS.rebase h g⟩
  | bk ρ μ => rw [q] at h; exact h
  | ct ρ μ => rw [q] at h; exact h
  | rt ρ μ => rw [q] at h; exact h
  | exc e ρ μ => rw [q] at h; exact h
  | bad => rw [q] at h; exact h
theorem ss_cons (h1 : PS X st (LS X.K W d1)) (h2 : PSs X rest (LS X.K W d2)) : PSs X (st :: rest) (LS X.K W (dSeq d1 d2)) :=
  (pss_cons h1 h2).mono fun D σ H ⟨ρ, μ, ι, sr, hr, h⟩ => ⟨ρ, μ, ι, sr, hr, seq_ok h⟩
theorem ss_one (h1 : PS X st (LS X.K W d1)) : PSs X [st] (LS X.K W d1) := pss_one h1
theorem ss_never : PSs X rest (LS X.K W dNever) := pss_never.mono fun D σ H ⟨ρ, μ, ι, sr, hr, h⟩ => h
theorem s_never : PS X st (LS X.K W dNever) := ps_never.mono fun D σ H ⟨ρ, μ, ι, sr, hr, h⟩ => h
theorem s_pass : PS X (.Pass pos) (LS X.K W dSkip) := ps_pass.mono fun D σ H ⟨ρ, μ, ι, sr, hr, h⟩ => h σ ι H .refl hr sr
theorem s_brk : PS X (.Break pos) (LS X.K W dBrk) := ps_break.mono fun D σ H ⟨ρ, μ, ι, sr, hr, h⟩ => h σ ι H .refl hr sr
theorem s_cnt : PS X (.Continue pos) (LS X.K W dCnt) := ps_continue.mono fun D σ H ⟨ρ, μ, ι, sr, hr, h⟩ => h σ ι H .refl hr sr
theorem s_expr (he : PE X e (LE X.K W da)) (hs : swapsWith e none pos.line X.env = pure false := by rfl) : PS X (.Expr e pos) (LS X.K W (dDrop da)) := by
  refine (ps_expr he hs).mono fun D σ H ⟨ρ, μ, ι, sr, hr, h⟩ => ?_
  refine ⟨ρ, μ, ι, sr, hr, Post.mono (Post.thn sr h) ?_⟩
  rintro v H1 ⟨x, μ1, ι1, g1, hr1, r1, sr1, h1⟩
  exact h1 σ ι1 H1 .refl hr1 sr1
theorem s_ret (he : PE X e (LE X.K W da)) : PS X (.Return (some e) pos) (LS X.K W (dRet da)) := by
  refine (ps_ret he).mono fun D σ H ⟨ρ, μ, ι, sr, hr, h⟩ => ?_
  refine ⟨ρ, μ, ι, sr, hr, Post.mono (Post.thn sr h) ?_⟩
  rintro v H1 ⟨x, μ1, ι1, g1, hr1, r1, sr1, h1⟩
  exact h1 v ι1 H1 .refl hr1 r1
theorem s_retN : PS X (.Return none pos) (LS X.K W dRetN) := ps_retN.mono fun D σ H ⟨ρ, μ, ι, sr, hr, h⟩ => h .non ι H .refl hr rfl
theorem s_if {c : Expr} {as bs : List Stmt} (hc : PT X c (LT X.K W ba)) (ha : PSs X as (LS X.K W d1)) (hb : PSs X bs (LS X.K W d2)) : PS X (.If c as bs pos) (LS X.K W (dIfS ba d1 d2)) := by
  refine (ps_if hc ha hb).mono fun D σ H ⟨ρ, μ, ι, sr, hr, h⟩ => ?_
  refine ⟨ρ, μ, ι, sr, hr, Post.mono (Post.thn sr h) ?_⟩
  rintro v H1 ⟨x, μ1, ι1, g1, hr1, rfl, sr1, h1⟩
  cases x with
  | true => rw [if_pos rfl] at h1 ⊢; exact ⟨ρ, μ1, ι1, sr1, hr1, h1⟩
  | false => rw [if_neg Bool.false_ne_true] at h1 ⊢; exact ⟨ρ, μ1, ι1, sr1, hr1, h1⟩
/-- a target, lifted: no exception leaves it -/
def LG (K : PySem.W.Frag) (W : WS) (g : DG) : TG := fun v σ H Q => ∃ ρ μ ι x, SR K ι H ρ σ ∧ HR K ι μ H ∧ Rep K ι H x v ∧ ∃ ρ' μ', g x ρ μ = .ok ρ' μ' ∧ ∀ σ' ι' H', Grow K ι H ι' H' → HR K ι' μ' H' → SR K ι' H' ρ' σ' → Q σ' H'
def LGs (K : PySem.W.Frag) (W : WS) (g : DGs) : TGs := fun vs σ H Q => ∃ ρ μ ι xs, SR K ι H ρ σ ∧ HR K ι μ H ∧ RepL K ι H xs vs ∧ ∃ ρ' μ', g xs ρ μ = .ok ρ' μ' ∧ ∀ σ' ι' H', Grow K ι H ι' H' → HR K ι' μ' H' → SR K ι' H' ρ' σ' → Q σ' H'
theorem g_mono {t t' : TG} (h : PG X e t) (m : ∀ v σ H Q, t' v σ H Q → t v σ H Q) : PG X e t' := ⟨fun pins s σ H v u Q I r q => h.run pins s σ H v u Q I r (m _ _ _ _ q)⟩
theorem g_name {i : Nat} {x : Str} (hN : X.N.Nodup) (hi : X.N[i]? = some x := by rfl) (hx : Loc X.env.scope x := by first | exact Or.inl rfl | exact Or.inr rfl) (hf : X.fn x = true ∨ X.env.scope.names.lookup x = some .local := by first | exact .inl rfl | exact .inr rfl | assumption) : PG X (.Name x pos) (LG X.K W (gN i)) :=
  g_mono (pg_name hN hi hx hf) fun v σ H Q ⟨ρ, μ, ι, x, sr, hr, r, ρ', μ', e, h⟩ => by
    cases e
    exact h _ ι H .refl hr (sr.set r i)
theorem gs_mono {es : List Expr} {t t' : TGs} (h : PGs X es t) (m : ∀ v σ H Q, t' v σ H Q → t v σ H Q) : PGs X es t' := ⟨fun pins s σ H v u Q I r q => h.run pins s σ H v u Q I r (m _ _ _ _ q)⟩
theorem gs_nil : PGs X [] (LGs X.K W gsN) := gs_mono pgs_nil fun vs σ H Q ⟨ρ, μ, ι, xs, sr, hr, r, ρ', μ', e, h⟩ => by
  cases xs with
  | nil => cases e; exact ⟨r, h _ ι H .refl hr sr⟩
  | cons _ _ => cases e
theorem bind_ok {α β : Type} {r : R α} {f : α → Mu → R β} {b : β} {μ' : Mu} (h : r.bind f = .ok b μ') : ∃ a μ1, r = .ok a μ1 ∧ f a μ1 = .ok b μ' := by
  cases r with
  | ok a μ => exact ⟨a, μ, rfl, h⟩
  | exc e μ => cases h
  | bad => cases h
theorem gs_cons {g : DG} {gs : DGs} (h1 : PG X e (LG X.K W g)) (h2 : PGs X es (LGs X.K W gs))
    (hs : (assignEach (e :: es) X.env).map (·.2) = assign e X.env :: (assignEach es X.env).map (·.2) := by rfl) : PGs X (e :: es) (LGs X.K W (gsC g gs)) :=
  gs_mono (pgs_cons h1 h2 hs) fun vs σ H Q ⟨ρ, μ, ι, xs, sr, hr, r, ρ', μ', e, h⟩ => by
    cases xs with
    | nil => cases e
    | cons x xs =>
      obtain ⟨v, vr, rfl, r1, r2⟩ := r
      obtain ⟨ρ1, μ1, e1, e2⟩ := bind_ok e
      refine ⟨v, vr, rfl, ρ, μ, ι, x, sr, hr, r1, ρ1, μ1, e1, fun σ1 ι1 H1 g1 hr1 sr1 => ?_⟩
      exact ⟨ρ1, μ1, ι1, xs, sr1, hr1, r2.grow g1, ρ', μ', e2, fun σ2 ι2 H2 g2 hr2 sr2 => h σ2 ι2 H2 (g1.trans g2) hr2 sr2⟩
theorem g_tup {k : Nat} {n : Nat} {gs : DGs} (hc : X.calm = true) (h : PGs X es (LGs X.K W gs))
    (hn : (assignEach es X.env).length = n := by rfl) (hst : (assignEach es X.env).findIdx? (·.1) = none := by rfl) : PG X (.Tuple es k pos) (LG X.K W (gT n gs)) :=
  g_mono (pg_tup hc h hn hst) fun v σ H Q ⟨ρ, μ, ι, x, sr, hr, r, ρ', μ', e, h⟩ => by
    cases x with
    | tup xs =>
      obtain ⟨a, vs, rfl, s1, r1⟩ := r
      unfold gT at e
      simp only at e
      split at e
      · rename_i hl
        exact ⟨a, vs, rfl, s1, by rw [r1.length]; exact hl, ρ, μ, ι, xs, sr, hr, r1, ρ', μ', e, h⟩
      · cases e
    | _ => cases e
theorem g_sub {o i : Expr} (ho : PE X o (LE X.K W da)) (hi : PE X i (LE X.K W db)) (ha : ∀ v, assign (.Subscript o i pos) X.env v = (do
      let ov ← holding [v] (eval o X.env)
      let iv ← holding [v, ov] (eval i X.env)
      standAt pos
      holding [v, ov, iv] (setItem ov iv v)
      release [v, ov, iv] []) := by intro _; rfl) : PG X (.Subscript o i pos) (LG X.K W (gSubL da db)) :=
  g_mono (pg_sub ho hi set_list ha) fun v σ H Q ⟨ρ, μ, ι, x, sr, hr, r, ρ', μ', e, h⟩ => by
    obtain ⟨ov, μ1, e1, e2⟩ := bind_ok e
    refine ⟨ρ, μ, ι, sr, hr, ?_⟩
    rw [e1]
    intro vo ι1 H1 g1 hr1 r1
    obtain ⟨iv, μ2, e3, e4⟩ := bind_ok e2
    refine ⟨ρ, μ1, ι1, sr.grow g1, hr1, ?_⟩
    rw [e3]
    intro vi ι2 H2 g2 hr2 r2
    cases ov with
    | ref l => cases iv with
      | int k =>
        simp only at e4
        cases q : getM μ2 l with
        | none => rw [q] at e4; cases e4
        | some xs =>
          rw [q] at e4
          simp only at e4
          cases q2 : ixN xs.length k with
          | none => rw [q2] at e4; cases e4
          | some j =>
            rw [q2] at e4
            cases e4
            obtain ⟨p, vs, i1, i2, i3⟩ := getM_at hr2 q
            obtain rfl := ref_eq (r1.grow g2) i1
            have rx := (r.grow g1).grow g2
            exact ⟨p, vs, k, j, rfl, r2, i2, by rw [i3.length]; exact q2, h σ ι2 _ ((g1.trans g2).trans (grow_write i1 i2)) (hr2.write (getM_of q) i1 i2 (i3.set rx j)) (((sr.grow g1).grow g2).grow (grow_write i1 i2))⟩
      | _ => cases e4
    | _ => cases e4
theorem s_asg {tg : Expr} {g : DG} (he : PE X e (LE X.K W da)) (hg : PG X tg (LG X.K W g)) (hs : swapsWithSole [tg] e pos.line X.env = pure false := by rfl) (hw : swappedStores [tg] e X.env = pure none := by rfl)
    (h1 : (assignEach [tg] X.env).map (·.2) = [assign tg X.env] := by rfl) : PS X (.Assign [tg] e pos) (LS X.K W (dAsg da g)) := by
  refine (ps_asg he hg hs hw h1).mono fun D σ H ⟨ρ, μ, ι, sr, hr, h⟩ => ?_
  refine ⟨ρ, μ, ι, sr, hr, Post.mono (Post.thn sr h) ?_⟩
  rintro v H1 ⟨x, μ1, ι1, g1, hr1, r1, sr1, h1⟩
  cases q : g x ρ μ1 with
  | ok ρ' μ' => rw [q] at h1; exact ⟨ρ, μ1, ι1, x, sr1, hr1, r1, ρ', μ', q, h1⟩
  | exc e μ => rw [q] at h1; exact h1.elim
  | bad => rw [q] at h1; exact h1.elim
theorem s_set {i : Nat} {x : Str} {pos' : Pos} (hN : X.N.Nodup) (he : PE X e (LE X.K W da)) (hi : X.N[i]? = some x := by rfl) (hx : Loc X.env.scope x := by first | exact Or.inl rfl | exact Or.inr rfl) (hs : swapsWith e (some (.Name x pos')) pos.line X.env = pure false := by rfl) (hf : X.fn x = true ∨ X.env.scope.names.lookup x = some .local := by first | exact .inl rfl | exact .inr rfl | assumption) :
    PS X (.Assign [.Name x pos'] e pos) (LS X.K W (dAsg da (gN i))) := by
  refine (ps_set hN hi hx he hs hf).mono fun D σ H ⟨ρ, μ, ι, sr, hr, h⟩ => ?_
  refine ⟨ρ, μ, ι, sr, hr, Post.mono (Post.thn sr h) ?_⟩
  rintro v H1 ⟨x, μ1, ι1, g1, hr1, r1, sr1, h1⟩
  exact h1 _ ι1 H1 .refl hr1 (sr1.set r1 i)
theorem s_par {i j : Nat} {x y : Str} {px py pt : Pos} {kt k2 pt2} (hc : X.calm = true) (hN : X.N.Nodup) (ha : PA X [a, b] (LA X.K W dl)) (hi : X.N[i]? = some x := by rfl) (hj : X.N[j]? = some y := by rfl) (hij : i ≠ j := by decide)
    (hx : X.env.scope.names.lookup x = some .local := by rfl) (hy : X.env.scope.names.lookup y = some .local := by rfl)
    (hw : swappedStores [.Tuple [.Name x px, .Name y py] kt pt] (.Tuple [a, b] k2 pt2) X.env = pure (some [x, y]) := by rfl)
    (hs : swapsWithSole [.Tuple [.Name x px, .Name y py] kt pt] (.Tuple [a, b] k2 pt2) pos.line X.env = pure false := by rfl) :
    PS X (.Assign [.Tuple [.Name x px, .Name y py] kt pt] (.Tuple [a, b] k2 pt2) pos) (LS X.K W (dPar i j dl)) := by
  refine (ps_par hc hN hi hj hij hx hy ha hw hs).mono fun D σ H ⟨ρ, μ, ι, sr, hr, h⟩ => ?_
  refine ⟨ρ, μ, ι, sr, hr, Post.mono (Post.thn sr h) ?_⟩
  rintro v H1 ⟨vs, μ1, ι1, g1, hr1, r1, sr1, h1⟩
  cases vs with
  | nil => exact h1.elim
  | cons v1 r => cases r with
    | nil => exact h1.elim
    | cons v2 r => cases r with
      | nil =>
        obtain ⟨u1, u2, rfl, q1, q2⟩ := two_rep r1
        exact ⟨u1, u2, rfl, h1 _ ι1 H1 .refl hr1 ((sr1.set q1 i).set q2 j)⟩
      | cons _ _ => exact h1.elim
/-- a, b, c = x, y, z with plain local names -/
def tPar3 (i j k : Nat) (ta : TA) : TS := fun D σ H => ta σ H fun vs H1 => ∃ v w z, vs = [v, w, z] ∧ D.nx (((σ.set i (some v)).set j (some w)).set k (some z)) H1
theorem ps_par3 {i j k : Nat} {x y z : Str} {a b c : Expr} {ta : TA} {px py pz pt : Pos} {kt k2 pt2} (hc : X.calm = true) (hN : X.N.Nodup) (hi : X.N[i]? = some x) (hj : X.N[j]? = some y) (hk : X.N[k]? = some z) (hij : i ≠ j) (hik : i ≠ k) (hjk : j ≠ k)
    (hx : X.env.scope.names.lookup x = some .local) (hy : X.env.scope.names.lookup y = some .local) (hz : X.env.scope.names.lookup z = some .local) (ha : PA X [a, b, c] ta)
    (hw : swappedStores [.Tuple [.Name x px, .Name y py, .Name z pz] kt pt] (.Tuple [a, b, c] k2 pt2) X.env = pure (some [x, y, z]))
    (hs : swapsWithSole [.Tuple [.Name x px, .Name y py, .Name z pz] kt pt] (.Tuple [a, b, c] k2 pt2) pos.line X.env = pure false := by rfl) :
    PS X (.Assign [.Tuple [.Name x px, .Name y py, .Name z pz] kt pt] (.Tuple [a, b, c] k2 pt2) pos) (tPar3 i j k ta) := by
  refine ⟨fun pins s σ H D I h => ?_⟩
  rw [exec_Assign_arm]
  refine wpAny_bind (wpAny_standAt ?_)
  rw [hs]
  refine wpAny_bind (wpAny_pure ?_)
  rw [if_neg (by decide)]
  refine wpAny_bind (Tuple_ (thn (ha.run _ pins s σ H _ I h) fun us s1 ⟨vs, H1, I1, r1, q1⟩ => ?_))
  obtain ⟨v, w, zz, e1, q1⟩ := q1
  subst e1
  obtain ⟨u1, u2, u3, rfl, rv, rw', rz⟩ : ∃ u1 u2 u3, us = [u1, u2, u3] ∧ RelV v u1 ∧ RelV w u2 ∧ RelV zz u3 := by
    cases r1 with
    | cons p q =>
      cases q with
      | cons p' q' =>
        cases q' with
        | cons p2 q2 =>
          cases q2
          exact ⟨_, _, _, rfl, p, p', p2⟩
  refine wpAny_newObj_type ?_ (by show 3 ≤ sizeLine; decide)
  have I2 : L2.Inv X pins σ H1 { s1 with heap := s1.heap.push { cls := .type "tuple", data := .seq [u1, u2, u3].toArray } } := I1.kept (t' := s1.toks) fun b o e => Heap.get?_push_of_some _ e
  rw [hw]
  refine wpAny_bind (wpAny_pure ?_)
  show wpAny (model X.prog X.w) X.A (do rule "assign.swapped-stores"; let items ← unpackItems (.ref s1.heap.objs.size) 3 none; assignInOrder [fun v => bindName X.env z v, fun v => bindName X.env y v, fun v => bindName X.env x v] items.reverse; pure Flow.next) _ _ _
  refine wpAny_bind (wpAny_rule (wpAny_bind (unpackItems_tuple (items := #[u1, u2, u3]) (I.ok.hd hc) (IsTup.new s1.heap _) fun h' hx' => ?_)))
  have I3 := I2.kept (h' := h') (t' := s1.toks) fun b o e => hx' b o (Nat.ne_of_lt (Heap.lt_size e)) e
  show wpAny _ _ (assignInOrder [fun v => bindName X.env z v, fun v => bindName X.env y v, fun v => bindName X.env x v] [u3, u2, u1] >>= fun _ => pure Flow.next) _ _ _
  refine wpAny_bind (assignInOrder_cons (wpAny_bindName (store_ok I3 hN hk (.inl hz) rz (fun s2 I4 => ?_) (.inr hz))))
  refine assignInOrder_cons (wpAny_bindName (store_ok I4 hN hj (.inl hy) rw' (fun s3 I5 => ?_) (.inr hy)))
  refine assignInOrder_cons (wpAny_bindName (store_ok I5 hN hi (.inl hx) rv (fun s4 I6 => assignInOrder_nil (wpAny_pure ?_)) (.inr hx)))
  rw [List.set_comm _ _ (Ne.symm hij), List.set_comm _ _ (Ne.symm hik), List.set_comm _ _ (Ne.symm hjk)] at I6
  exact ⟨_, H1, I6, q1⟩
theorem s_par3 {i j k : Nat} {x y z : Str} {c : Expr} {px py pz pt : Pos} {kt k2 pt2} (hc : X.calm = true) (hN : X.N.Nodup) (ha : PA X [a, b, c] (LA X.K W dl)) (hi : X.N[i]? = some x := by rfl) (hj : X.N[j]? = some y := by rfl) (hk : X.N[k]? = some z := by rfl) (hij : i ≠ j := by decide) (hik : i ≠ k := by decide) (hjk : j ≠ k := by decide)
    (hx : X.env.scope.names.lookup x = some .local := by rfl) (hy : X.env.scope.names.lookup y = some .local := by rfl) (hz : X.env.scope.names.lookup z = some .local := by rfl)
    (hw : swappedStores [.Tuple [.Name x px, .Name y py, .Name z pz] kt pt] (.Tuple [a, b, c] k2 pt2) X.env = pure (some [x, y, z]) := by rfl)
    (hs : swapsWithSole [.Tuple [.Name x px, .Name y py, .Name z pz] kt pt] (.Tuple [a, b, c] k2 pt2) pos.line X.env = pure false := by rfl) :
    PS X (.Assign [.Tuple [.Name x px, .Name y py, .Name z pz] kt pt] (.Tuple [a, b, c] k2 pt2) pos) (LS X.K W (dPar3 i j k dl)) := by
  refine (ps_par3 hc hN hi hj hk hij hik hjk hx hy hz ha hw hs).mono fun D σ H ⟨ρ, μ, ι, sr, hr, h⟩ => ?_
  refine ⟨ρ, μ, ι, sr, hr, Post.mono (Post.thn sr h) ?_⟩
  rintro v H1 ⟨vs, μ1, ι1, g1, hr1, r1, sr1, h1⟩
  cases vs with
  | nil => exact h1.elim
  | cons v1 r => cases r with
    | nil => exact h1.elim
    | cons v2 r => cases r with
      | nil => exact h1.elim
      | cons v3 r => cases r with
        | nil =>
          obtain ⟨u1, t, rfl, q1, rt⟩ := r1
          obtain ⟨u2, u3, rfl, q2, q3⟩ := two_rep rt
          exact ⟨u1, u2, u3, rfl, h1 _ ι1 H1 .refl hr1 (((sr1.set q1 i).set q2 j).set q3 k)⟩
        | cons _ _ => exact h1.elim
theorem aug_ok {K : PySem.W.Frag} {f : Int → Int → Int} {i : Nat} {D : Ends} {σ : L2.St} {H : Hp} (h : LS K W (dAugI f i da) D σ H) : tAug i (LE K W da) (ipI f) D σ H := by
  obtain ⟨ρ, μ, ι, sr, hr, h⟩ := h
  unfold dAugI at h
  split at h
  · rename_i x e
    obtain ⟨v, e1, e2⟩ := sr.get e
    cases e2
    refine ⟨_, e1, ρ, μ, ι, sr, hr, Post.mono (Post.thn sr h) ?_⟩
    rintro v H1 ⟨y, μ1, ι1, g1, hr1, r1, sr1, h1⟩
    cases y with
    | int y => cases r1; exact ⟨x, y, rfl, rfl, h1 _ ι1 H1 .refl hr1 (sr1.set (show Rep K ι1 H1 (.int (f x y)) (.int (f x y)) from rfl) i)⟩
    | _ => exact h1.elim
  · exact h.elim
theorem s_augA {i : Nat} {x : Str} {pos' : Pos} (hN : X.N.Nodup) (he : PE X e (LE X.K W da)) (hi : X.N[i]? = some x := by rfl) (hx : Loc X.env.scope x := by first | exact Or.inl rfl | exact Or.inr rfl) (hf : X.fn x = true ∨ X.env.scope.names.lookup x = some .local := by first | exact .inl rfl | exact .inr rfl | assumption) :
    PS X (.AugAssign (.Name x pos') .Add e pos) (LS X.K W (dAugI (· + ·) i da)) := (ps_aug hN hi hx he ip_add hf).mono fun D σ H h => aug_ok h
/-- while -/
theorem s_while {c : Expr} {body : List Stmt} (hp : PassesOwn (model X.prog X.w) X.A X.env X.xe) (hc : PT X c (LT X.K W ba)) (hb : PSs X body (LS X.K W d1)) : PS X (.While c body [] pos) (LS X.K W (dWhile ba d1)) := by
  refine (ps_while hp hc hb).mono fun D σ H ⟨ρ, μ, ι, sr, hr, h⟩ => ?_
  refine ⟨fun m σ H => ∃ ρ μ ι, SR X.K ι H ρ σ ∧ HR X.K ι μ H ∧ PostS X.K W ι H (dWhileN ba d1 m ρ μ) D, ⟨lid, ρ, μ, ι, sr, hr, h⟩, ?_⟩
  rintro m σ H ⟨ρ, μ, ι, sr, hr, h⟩
  cases m with
  | zero => exact h.elim
  | succ m =>
    refine ⟨ρ, μ, ι, sr, hr, Post.mono (Post.thn sr h) ?_⟩
    rintro v H1 ⟨x, μ1, ι1, g1, hr1, rfl, sr1, h1⟩
    cases x with
    | false => rw [if_neg Bool.false_ne_true] at h1 ⊢; exact h1 σ ι1 H1 .refl hr1 sr1
    | true =>
      rw [if_pos rfl] at h1 ⊢
      refine ⟨fun σ' H' => ∃ ρ μ ι, SR X.K ι H' ρ σ' ∧ HR X.K ι μ H' ∧ PostS X.K W ι H' (dWhileN ba d1 m ρ μ) D, fun σ' H' q => ⟨m, Nat.lt_succ_self m, q⟩, ρ, μ1, ι1, sr1, hr1, ?_⟩
      cases q : d1 ρ μ1 with
      | nx ρ' μ' => rw [q] at h1; exact fun σ' ι' H' g hr sr => ⟨ρ', μ', ι', sr, hr, PostS.rebase h1 g⟩
      | ct ρ' μ' => rw [q] at h1; exact fun σ' ι' H' g hr sr => ⟨ρ', μ', ι', sr, hr, PostS.rebase h1 g⟩
      | bk ρ' μ' => rw [q] at h1; exact h1
      | rt v μ' => rw [q] at h1; exact h1
      | exc e ρ' μ' => rw [q] at h1; exact h1
      | bad => rw [q] at h1; exact h1
end
end GB
set_option Elab.async false
set_option linter.all false
set_option maxRecDepth 100000
set_option maxHeartbeats 2000000
namespace GB
open PySem PySem.Spec PyProof.Rows L2
/-! ### what is walked -/
abbrev DI := Mu → Nat → Option (Option PV)
structure ItL (K : PySem.W.Frag) (ι0 : List Addr) (H0 : Hp) (j : DI) (J : It) : Prop where
  step : ∀ (i : Nat) (ι : List Addr) (μ : Mu) (H : Hp), Grow K ι0 H0 ι H → HR K ι μ H → match j μ i with
    | none => True
    | some none => J.stop i H
    | some (some x) => J.go i H ∧ ∀ v H', J.yld i H v H' → Grow K ι H ι H' ∧ HR K ι μ H' ∧ Rep K ι H' x v
abbrev LI (K : PySem.W.Frag) (W : WS) (d : Rho → Mu → R DI) : TI := lift K W (fun ι H j J => ItL K ι H j J) d
def jTup (xs : List PV) : DI := fun _ i => some (xs[i]?)
def jLst (l : Nat) : DI := fun μ i => (getL μ l).map fun xs => xs[i]?
def jRng (lo : Int) (n : Nat) : DI := fun _ i => some (if i < n then some (.int (lo + i)) else none)
def jEnum (j : DI) : DI := fun μ i => (j μ i).map fun o => o.map fun x => .tup [.int i, x]
def jZip (j k : DI) : DI := fun μ i => match j μ i, k μ i with
  | some (some x), some (some y) => some (some (.tup [x, y]))
  | some _, some _ => some none
  | _, _ => none
/-- a list or a tuple -/
def jSeq (x : PV) (μ : Mu) : R DI := match x with
  | .tup xs => .ok (jTup xs) μ
  | .ref l => match getL μ l with
    | some _ => .ok (jLst l) μ
    | none => .bad
  | _ => .bad
def diSeq (a : Dn PV) : Rho → Mu → R DI := fun ρ μ => (a ρ μ).bind fun x μ => jSeq x μ
def diRng1 (a : Dn (List PV)) : Rho → Mu → R DI := fun ρ μ => (a ρ μ).bind fun xs μ => match xs with
  | [.int j] => if decide (-4611686018427387904 ≤ j) && decide (j < 4611686018427387904) then .ok (jRng 0 j.toNat) μ else .bad
  | _ => .bad
def diRng2 (a : Dn (List PV)) : Rho → Mu → R DI := fun ρ μ => (a ρ μ).bind fun xs μ => match xs with
  | [.int i, .int j] => if decide (-4611686018427387904 ≤ i) && decide (i < 4611686018427387904) && decide (-4611686018427387904 ≤ j) && decide (j < 4611686018427387904) then .ok (jRng i (j - i).toNat) μ else .bad
  | _ => .bad
def diEnum (a : Dn (List PV)) : Rho → Mu → R DI := fun ρ μ => (a ρ μ).bind fun xs μ => match xs with
  | [x] => (jSeq x μ).bind fun j μ => .ok (jEnum j) μ
  | _ => .bad
def diZip (a : Dn (List PV)) : Rho → Mu → R DI := fun ρ μ => (a ρ μ).bind fun xs μ => match xs with
  | [.tup x, .tup y] => .ok (jZip (jTup x) (jTup y)) μ
  | [.ref l, .ref m] => match getL μ l, getL μ m with
    | some _, some _ => .ok (jZip (jLst l) (jLst m)) μ
    | _, _ => .bad
  | _ => .bad
section
variable {K : PySem.W.Frag} {ι : List Addr} {μ : Mu} {H : Hp}
theorem itl_list {l : Nat} {a : Addr} (hi : ι[l]? = some a) : ItL K ι H (jLst l) (Itl K a) := ⟨fun i ι1 μ1 H1 g hr => by
  unfold jLst
  cases q : getL μ1 l with
  | none => exact trivial
  | some xs =>
    obtain ⟨a1, vs, h1, h2, h3, _⟩ := getL_sq hr q
    have e := pre_get g.pre hi
    rw [h1] at e
    cases e
    simp only [Option.map_some]
    cases q2 : xs[i]? with
    | none =>
      refine ⟨vs, h2, ?_⟩
      rw [h3.length]
      exact List.getElem?_eq_none_iff.mp q2
    | some x =>
      obtain ⟨u, e1, e2⟩ := h3.get q2
      refine ⟨⟨vs, u, h2, e1⟩, fun v H' ⟨e3, e4⟩ => ?_⟩
      subst e3
      have e5 := e4 vs h2
      rw [e1] at e5
      cases e5
      exact ⟨.refl, hr, e2⟩⟩
theorem itl_tup {xs : List PV} {vs : List V} {a : Addr} (s : SqT K H a vs) (r : RepL K ι H xs vs) : ItL K ι H (jTup xs) (Itt K a) := ⟨fun i ι1 μ1 H1 g hr => by
  unfold jTup
  have s1 := g.tup a vs s
  have r1 := r.grow g
  cases q2 : xs[i]? with
  | none =>
    refine ⟨vs, s1, ?_⟩
    rw [r1.length]
    exact List.getElem?_eq_none_iff.mp q2
  | some x =>
    obtain ⟨u, e1, e2⟩ := r1.get q2
    refine ⟨⟨vs, u, s1, e1⟩, fun v H' ⟨e3, e4⟩ => ?_⟩
    subst e3
    have e5 := e4 vs s1
    rw [e1] at e5
    cases e5
    exact ⟨.refl, hr, e2⟩⟩
theorem itl_rng {lo : Int} {n : Nat} : ItL K ι H (jRng lo n) (Itr lo n) := ⟨fun i ι1 μ1 H1 g hr => by
  unfold jRng
  by_cases h : i < n
  · rw [if_pos h]
    exact ⟨h, fun v H' ⟨e3, e4⟩ => by subst e3; exact ⟨.refl, hr, e4⟩⟩
  · rw [if_neg h]
    exact Nat.le_of_not_lt h⟩
end
section
variable {X : Cx} {W : WS} {tg : Expr} {l : Expr} {da : Dn PV} {dl : Dn (List PV)} {p pos tpos : Pos}
/-- a list or a tuple -/
def iSeq (K : PySem.W.Frag) (tl : TE) : TI := fun σ H R => tl σ H fun x H1 => (∃ a, x = .ref a ∧ (∃ xs, SqL K H1 a xs) ∧ R (Itl K a) H1) ∨ (∃ a, x = .ref a ∧ (∃ xs, SqT K H1 a xs) ∧ R (Itt K a) H1)
theorem pi_seq {tl : TE} (hl : PE X l tl) : PI X tg l (iSeq X.K tl) := by
  refine ⟨fun pins s σ H R I h => ?_⟩
  refine thn (hl.run pins s σ H _ I h) fun v s1 ⟨x, H1, I1, r1, q1⟩ => ?_
  rcases q1 with ⟨a, e, ⟨xs, hq⟩, q⟩ | ⟨a, e, ⟨xs, hq⟩, q⟩
  · subst e
    cases r1
    obtain ⟨its, rv, p, hz⟩ := I1.list hq
    refine wpAny_pyIter_list p.isList ?_
    refine ⟨s1.heap.objs.size, [s1.heap.objs.size], _, _, H1, rfl, I1.kept (t' := s1.toks) fun b o e => Heap.get?_push_of_some _ e, turn_list a _, ⟨_, Heap.get?_push_size _ rfl, rfl, rfl⟩, fun b hb => ?_, q⟩
    have e : b = s1.heap.objs.size := by simpa using hb
    subst e
    exact I1.fpOk (Nat.le_refl _) (I1.hok.fresh (Nat.le_refl _))
  · subst e
    cases r1
    obtain ⟨its, rv, p, hz⟩ := I1.tuple hq
    refine wpAny_pyIter_tuple (show s1.heap.IsTuple a its.toArray from p) ?_
    refine ⟨s1.heap.objs.size, [s1.heap.objs.size], _, _, H1, rfl, I1.kept (t' := s1.toks) fun b o e => Heap.get?_push_of_some _ e, turn_tuple a _, ⟨_, Heap.get?_push_size _ rfl, rfl, rfl⟩, fun b hb => ?_, q⟩
    have e : b = s1.heap.objs.size := by simpa using hb
    subst e
    exact I1.fpOk (Nat.le_refl _) (I1.hok.fresh (Nat.le_refl _))
theorem pi_mono {wi wi' : TI} {it : Expr} (h : PI X tg it wi) (m : ∀ σ H Q, wi' σ H Q → wi σ H Q) : PI X tg it wi' := ⟨fun pins s σ H R I q => h.run pins s σ H R I (m _ _ _ q)⟩
theorem i_seq (hl : PE X l (LE X.K W da)) : PI X tg l (LI X.K W (diSeq da)) := pi_mono (pi_seq hl) fun σ H R ⟨ρ, μ, ι, sr, hr, h⟩ => by
  refine ⟨ρ, μ, ι, sr, hr, Post.mono (Post.bind h) ?_⟩
  rintro v H1 ⟨x, μ1, ι1, g1, hr1, r1, h1⟩
  unfold jSeq at h1
  cases x with
  | tup xs =>
    obtain ⟨a, vs, rfl, s, r⟩ := r1
    exact .inr ⟨a, rfl, ⟨vs, s⟩, h1.ok hr1 (itl_tup s r)⟩
  | ref l =>
    simp only at h1
    cases q : getL μ1 l with
    | none => rw [q] at h1; exact h1.elim
    | some xs =>
      rw [q] at h1
      obtain ⟨a, vs, i1, i2, i3, _⟩ := getL_sq hr1 q
      obtain rfl := ref_eq r1 i1
      exact .inl ⟨a, rfl, ⟨vs, i2⟩, h1.ok hr1 (itl_list i1)⟩
  | _ => exact h1.elim
theorem i_rng1 {a : Expr} (hm : X.mg "range" = none) (ha : PA X [a] (LA X.K W dl)) (hg : Gl X "range" := by rfl) (hs : starEach [a] X.env = [(false, eval a X.env)] := by rfl) : PI X tg (.Call (.Name "range" p) [a] [] pos) (LI X.K W (diRng1 dl)) := pi_mono (pi_range1 hg hm ha hs) fun σ H R ⟨ρ, μ, ι, sr, hr, h⟩ => by
  refine ⟨ρ, μ, ι, sr, hr, Post.mono (Post.bind h) ?_⟩
  rintro v H1 ⟨x, μ1, ι1, g1, hr1, r1, h1⟩
  split at h1
  · obtain ⟨u, rfl, r2⟩ := one_rep r1
    cases r2
    split at h1
    · rename_i c
      rw [Bool.and_eq_true] at c
      have c1 := of_decide_eq_true c.1
      have c2 := of_decide_eq_true c.2
      exact ⟨_, rfl, by omega, by omega, h1.ok hr1 itl_rng⟩
    · exact h1.elim
  · exact h1.elim
theorem i_rng2 {a b : Expr} (hm : X.mg "range" = none) (ha : PA X [a, b] (LA X.K W dl)) (hg : Gl X "range" := by rfl) (hs : starEach [a, b] X.env = [(false, eval a X.env), (false, eval b X.env)] := by rfl) (hs2 : starEach [b] X.env = [(false, eval b X.env)] := by rfl) : PI X tg (.Call (.Name "range" p) [a, b] [] pos) (LI X.K W (diRng2 dl)) := pi_mono (pi_range2 hg hm ha hs hs2) fun σ H R ⟨ρ, μ, ι, sr, hr, h⟩ => by
  refine ⟨ρ, μ, ι, sr, hr, Post.mono (Post.bind h) ?_⟩
  rintro v H1 ⟨x, μ1, ι1, g1, hr1, r1, h1⟩
  split at h1
  · obtain ⟨u, u2, rfl, r2, r3⟩ := two_rep r1
    cases r2; cases r3
    split at h1
    · rename_i c
      simp only [Bool.and_eq_true] at c
      have c1 := of_decide_eq_true c.1.1.1
      have c2 := of_decide_eq_true c.1.1.2
      have c3 := of_decide_eq_true c.1.2
      have c4 := of_decide_eq_true c.2
      exact ⟨_, _, rfl, ⟨by omega, by omega, by omega, by omega⟩, h1.ok hr1 itl_rng⟩
    · exact h1.elim
  · exact h1.elim
theorem itl_zip {K : PySem.W.Frag} {ι : List Addr} {H : Hp} {l m : Nat} {a b : Addr} (hi : ι[l]? = some a) (hj : ι[m]? = some b) : ItL K ι H (jZip (jLst l) (jLst m)) (Itz K a b) := ⟨fun i ι1 μ1 H1 g hr => by
  unfold jZip jLst
  cases q : getL μ1 l with
  | none => exact trivial
  | some xs => cases q' : getL μ1 m with
    | none =>
      simp only [Option.map_some, Option.map_none]
      cases xs[i]? <;> exact trivial
    | some ys =>
      obtain ⟨a1, vs, h1, h2, h3, _⟩ := getL_sq hr q
      obtain ⟨b1, us, k1, k2, k3, _⟩ := getL_sq hr q'
      have e := pre_get g.pre hi
      rw [h1] at e
      cases e
      have e := pre_get g.pre hj
      rw [k1] at e
      cases e
      simp only [Option.map_some]
      cases q2 : xs[i]? with
      | none =>
        simp only
        exact ⟨vs, us, h2, k2, .inl (by rw [h3.length]; exact List.getElem?_eq_none_iff.mp q2)⟩
      | some x => cases q3 : ys[i]? with
        | none =>
          simp only
          exact ⟨vs, us, h2, k2, .inr (by rw [k3.length]; exact List.getElem?_eq_none_iff.mp q3)⟩
        | some y =>
          simp only
          obtain ⟨u, e1, e2⟩ := h3.get q2
          obtain ⟨u', e1', e2'⟩ := k3.get q3
          refine ⟨⟨vs, us, u, u', h2, k2, e1, e1'⟩, fun v H' ⟨T, x', y', e3, e4, e5, e6, e7⟩ => ?_⟩
          subst e3 e5
          have z1 := e6 vs h2
          have z2 := e7 us k2
          rw [e1] at z1
          rw [e1'] at z2
          cases z1; cases z2
          exact ⟨grow_new e4, hr.new e4, T, _, rfl, .of upd_same, .cons_ (e2.grow (grow_new e4)) (.cons_ (e2'.grow (grow_new e4)) .nil_)⟩⟩
theorem itl_zipT {K : PySem.W.Frag} {ι : List Addr} {H : Hp} {xs ys : List PV} {vs us : List V} {a b : Addr} (s : SqT K H a vs) (r : RepL K ι H xs vs) (s' : SqT K H b us) (r' : RepL K ι H ys us) : ItL K ι H (jZip (jTup xs) (jTup ys)) (RZ.ItzT K a b) := ⟨fun i ι1 μ1 H1 g hr => by
  unfold jZip jTup
  have h2 := g.tup a vs s
  have h3 := r.grow g
  have k2 := g.tup b us s'
  have k3 := r'.grow g
  cases q2 : xs[i]? with
  | none =>
    simp only
    exact ⟨vs, us, h2, k2, .inl (by rw [h3.length]; exact List.getElem?_eq_none_iff.mp q2)⟩
  | some x => cases q3 : ys[i]? with
    | none =>
      simp only
      exact ⟨vs, us, h2, k2, .inr (by rw [k3.length]; exact List.getElem?_eq_none_iff.mp q3)⟩
    | some y =>
      simp only
      obtain ⟨u, e1, e2⟩ := h3.get q2
      obtain ⟨u', e1', e2'⟩ := k3.get q3
      refine ⟨⟨vs, us, u, u', h2, k2, e1, e1'⟩, fun v H' ⟨T, x', y', e3, e4, e5, e6, e7⟩ => ?_⟩
      subst e3 e5
      have z1 := e6 vs h2
      have z2 := e7 us k2
      rw [e1] at z1
      rw [e1'] at z2
      cases z1; cases z2
      exact ⟨grow_new e4, hr.new e4, T, _, rfl, .of upd_same, .cons_ (e2.grow (grow_new e4)) (.cons_ (e2'.grow (grow_new e4)) .nil_)⟩⟩
theorem i_zip {e e2 : Expr} {elts : List Expr} {kk : Nat} (hm : X.mg "zip" = none) (ha : PA X [e, e2] (LA X.K W dl)) (hg : Gl X "zip" := by rfl)
    (hs : starEach [e, e2] X.env = (false, eval e X.env) :: starEach [e2] X.env := by rfl) (hpl : (backTo pos (starEach [e2] X.env)).any (·.1) = false := by rfl) :
    PI X (.Tuple elts kk tpos) (.Call (.Name "zip" p) [e, e2] [] pos) (LI X.K W (diZip dl)) := pi_mono (RZ.pi_zipA hg hm ha hs hpl) fun σ H R ⟨ρ, μ, ι, sr, hr, h⟩ => by
  refine ⟨ρ, μ, ι, sr, hr, Post.mono (Post.bind h) ?_⟩
  rintro v H1 ⟨x, μ1, ι1, g1, hr1, r1, h1⟩
  split at h1
  · obtain ⟨u, u2, rfl, r2, r3⟩ := two_rep r1
    obtain ⟨a, vs, rfl, s, r⟩ := r2
    obtain ⟨b, us, rfl, s', r'⟩ := r3
    exact ⟨a, b, vs, us, rfl, .inr ⟨s, s', h1.ok hr1 (itl_zipT s r s' r')⟩⟩
  · obtain ⟨u, u2, rfl, r2, r3⟩ := two_rep r1
    split at h1
    · rename_i q1 q2
      obtain ⟨a1, vs, i1, i2, _⟩ := getL_sq hr1 q1
      obtain ⟨b1, us, k1, k2, _⟩ := getL_sq hr1 q2
      obtain rfl := ref_eq r2 i1
      obtain rfl := ref_eq r3 k1
      exact ⟨a1, b1, vs, us, rfl, .inl ⟨i2, k2, h1.ok hr1 (itl_zip i1 k1)⟩⟩
    · exact h1.elim
  · exact h1.elim
end
/-! ### for -/
def dForN (j : DI) (g : DG) (b : DS) : Nat → Nat → DS
  | 0, _ => fun _ _ => .bad
  | n + 1, i => fun ρ μ => match j μ i with
    | none => .bad
    | some none => .nx ρ μ
    | some (some x) => match g x ρ μ with
      | .ok ρ μ => (match b ρ μ with
        | .nx ρ μ => dForN j g b n (i + 1) ρ μ
        | .ct ρ μ => dForN j g b n (i + 1) ρ μ
        | .bk ρ μ => .nx ρ μ
        | o => o)
      | _ => .bad
def dFor (d : Rho → Mu → R DI) (g : DG) (b : DS) : DS := fun ρ μ => (d ρ μ).thn ρ fun j μ => dForN j g b lid 0 ρ μ
section
variable {X : Cx} {W : WS} {tg iter : Expr} {body : List Stmt} {g : DG} {d1 : DS} {di : Rho → Mu → R DI} {pos : Pos}
theorem s_for (hp : PassesOwn (model X.prog X.w) X.A X.env X.xe) (hc : X.calm = true) (hi : PI X tg iter (LI X.K W di)) (hg : PG X tg (LG X.K W g)) (hb : PSs X body (LS X.K W d1))
    (hs : ∀ x, foldedSetIterable iter X.env x = pure x := by intro _; rfl) : PS X (.For tg iter body [] pos) (LS X.K W (dFor di g d1)) := by
  refine (ps_for hp hc hi hg hb hs).mono fun D σ H ⟨ρ, μ, ι, sr, hr, h⟩ => ?_
  refine ⟨ρ, μ, ι, sr, hr, Post.mono (Post.thn sr h) ?_⟩
  rintro J H1 ⟨j, μ1, ι1, g1, hr1, r1, sr1, h1⟩
  refine ⟨fun i m σ H => ∃ ρ μ ι, SR X.K ι H ρ σ ∧ HR X.K ι μ H ∧ Grow X.K ι1 H1 ι H ∧ PostS X.K W ι H (dForN j g d1 m i ρ μ) D, ⟨lid, ρ, μ1, ι1, sr1, hr1, .refl, h1⟩, ?_⟩
  rintro i m σ2 H2 ⟨ρ2, μ2, ι2, sr2, hr2, g2, h2⟩
  cases m with
  | zero => exact h2.elim
  | succ m =>
    unfold dForN at h2
    have st := r1.step i ι2 μ2 H2 g2 hr2
    cases q : j μ2 i with
    | none => rw [q] at h2; exact h2.elim
    | some o => cases o with
      | none =>
        rw [q] at h2 st
        exact .inl ⟨st, h2 σ2 ι2 H2 .refl hr2 sr2⟩
      | some x =>
        rw [q] at h2 st
        simp only at h2 st
        obtain ⟨go, yl⟩ := st
        refine .inr ⟨go, fun σ' H' => ∃ ρ μ ι, SR X.K ι H' ρ σ' ∧ HR X.K ι μ H' ∧ Grow X.K ι1 H1 ι H' ∧ PostS X.K W ι H' (dForN j g d1 m (i + 1) ρ μ) D, fun σ' H' q => ⟨m, Nat.lt_succ_self m, q⟩, fun v H3 hy => ?_⟩
        obtain ⟨g3, hr3, r3⟩ := yl v H3 hy
        cases q2 : g x ρ2 μ2 with
        | exc e μ => rw [q2] at h2; exact h2.elim
        | bad => rw [q2] at h2; exact h2.elim
        | ok ρ4 μ4 =>
          rw [q2] at h2
          simp only at h2
          refine ⟨ρ2, μ2, ι2, x, sr2.grow g3, hr3, r3, ρ4, μ4, q2, fun σ4 ι4 H4 g4 hr4 sr4 => ?_⟩
          have gg : Grow X.K ι1 H1 ι4 H4 := (g2.trans g3).trans g4
          have gg2 : Grow X.K ι2 H2 ι4 H4 := g3.trans g4
          refine ⟨ρ4, μ4, ι4, sr4, hr4, ?_⟩
          cases q5 : d1 ρ4 μ4 with
          | nx ρ' μ' => rw [q5] at h2; exact fun σ' ι' H' g hr sr => ⟨ρ', μ', ι', sr, hr, gg.trans g, PostS.rebase h2 (gg2.trans g)⟩
          | ct ρ' μ' => rw [q5] at h2; exact fun σ' ι' H' g hr sr => ⟨ρ', μ', ι', sr, hr, gg.trans g, PostS.rebase h2 (gg2.trans g)⟩
          | bk ρ' μ' => rw [q5] at h2; exact PostS.rebase (r := .nx ρ' μ') h2 gg2
          | rt v μ' => rw [q5] at h2; exact PostS.rebase (r := .rt v μ') (D := D) h2 gg2
          | exc e ρ' μ' => rw [q5] at h2; exact PostS.rebase (r := .exc e ρ' μ') (D := D) h2 gg2
          | bad => rw [q5] at h2; exact h2
end
/-! ### comprehensions -/
def W0 : WS := fun _ _ _ _ _ => False
def wipeP (ρ : Rho) : List Nat → Rho
  | [] => ρ
  | v :: vs => (wipeP ρ vs).set v none
def dLcN (j : DI) (g : PV → Rho → Option Rho) (tt : Dn Bool) (te : Dn PV) (ρ : Rho) (D : Nat) : Nat → Nat → Mu → R PV
  | 0, _ => fun _ => .bad
  | n + 1, i => fun μ => match j μ i with
    | none => .bad
    | some none => .ok (.ref D) μ
    | some (some x) => match g x ρ with
      | none => .bad
      | some ρ2 => match tt ρ2 μ with
        | .ok true μ => (match te ρ2 μ with
          | .ok y μ => (match getM μ D with
            | some acc => if acc.length < 16777216 then dLcN j g tt te ρ D n (i + 1) (μ.set D (.lst (acc ++ [y]))) else .bad
            | none => .bad)
          | _ => .bad)
        | .ok false μ => dLcN j g tt te ρ D n (i + 1) μ
        | _ => .bad
def dLc (d : Rho → Mu → R DI) (g : PV → Rho → Option Rho) (tt : Dn Bool) (te : Dn PV) (vs : List Nat) : Dn PV := fun ρ μ => (d ρ μ).bind fun j μ => dLcN j g tt te (wipeP ρ vs) μ.length lid 0 (μ ++ [.lst []])
def dYes : Dn Bool := fun _ μ => .ok true μ
/-- a comprehension's target -/
def CTok (K : PySem.W.Frag) (g : TG) (dg : PV → Rho → Option Rho) (vs : List Nat) : Prop := ∀ (v : V) (σ : L2.St) (H : Hp) (Q : L2.St → Hp → Prop) (x : PV) (ρ ρ' : Rho) (ι : List Addr), SR K ι H ρ (wipe σ vs) → Rep K ι H x v → dg x ρ = some ρ' →
  (∀ σ2, SR K ι H ρ' σ2 → wipe σ2 vs = wipe σ vs → Q σ2 H) → g v (wipe σ vs) H Q
def gcN (i : Nat) (x : PV) (ρ : Rho) : Option Rho := some (ρ.set i (some x))
def gc2 (i j : Nat) (x : PV) (ρ : Rho) : Option Rho := match x with
  | .tup [a, b] => some ((ρ.set i (some a)).set j (some b))
  | _ => none
def gc3 (i j k : Nat) (x : PV) (ρ : Rho) : Option Rho := match x with
  | .tup [a, b, c] => some (((ρ.set i (some a)).set j (some b)).set k (some c))
  | _ => none
theorem wipe_get (σ : L2.St) (k : Nat) : ∀ vs : List Nat, (wipe σ vs)[k]? = if k ∈ vs then (if k < σ.length then some none else none) else σ[k]?
  | [] => by simp [wipe]
  | v :: vs => by
    unfold wipe
    by_cases h : v = k
    · subst h
      rw [List.getElem?_set_self', if_pos List.mem_cons_self]
      by_cases hl : v < σ.length
      · rw [if_pos hl, List.getElem?_eq_getElem (by rw [wipe_length]; exact hl)]; rfl
      · rw [if_neg hl, List.getElem?_eq_none (by rw [wipe_length]; omega)]; rfl
    · rw [List.getElem?_set_ne h, wipe_get σ k vs]
      have : (k ∈ v :: vs) ↔ k ∈ vs := by simp [Ne.symm h]
      by_cases hk : k ∈ vs
      · rw [if_pos hk, if_pos (this.mpr hk)]
      · rw [if_neg hk, if_neg (fun z => hk (this.mp z))]
theorem wipe_ext {σ τ : L2.St} {vs : List Nat} (hl : σ.length = τ.length) (h : ∀ k, k ∉ vs → σ[k]? = τ[k]?) : wipe σ vs = wipe τ vs := by
  apply List.ext_getElem?
  intro k
  rw [wipe_get, wipe_get, hl]
  by_cases hk : k ∈ vs
  · rw [if_pos hk, if_pos hk]
  · rw [if_neg hk, if_neg hk]; exact h k hk
theorem wipe_set {σ τ : L2.St} {vs : List Nat} {i : Nat} {o : Option V} (hi : i ∈ vs) (h : wipe σ vs = wipe τ vs) : wipe (σ.set i o) vs = wipe τ vs := by
  rw [← h]
  refine wipe_ext (by simp) fun k hk => ?_
  rw [List.getElem?_set_ne (show i ≠ k from fun z => hk (by rw [← z]; exact hi))]
theorem wipe_wipe (σ : L2.St) (vs : List Nat) : wipe (wipe σ vs) vs = wipe σ vs := wipe_ext (by rw [wipe_length]) fun k hk => by rw [wipe_get, if_neg hk]
theorem SR.wipe {K : PySem.W.Frag} {ι : List Addr} {H : Hp} {ρ : Rho} {σ : L2.St} (h : SR K ι H ρ σ) : ∀ vs : List Nat, SR K ι H (wipeP ρ vs) (wipe σ vs)
  | [] => h
  | v :: vs => (SR.wipe h vs).unset v none
theorem ct_name {K : PySem.W.Frag} {i : Nat} {vs : List Nat} (hi : i ∈ vs) : CTok K (gName i) (gcN i) vs := fun v σ H Q x ρ ρ' ι sr r e h => by
  cases e
  exact h _ (sr.set r i) (wipe_set hi (wipe_wipe σ vs))
theorem ct_two {K : PySem.W.Frag} {i j : Nat} {vs : List Nat} (hi : i ∈ vs) (hj : j ∈ vs) : CTok K (gTup K 2 (gCons (gName i) (gCons (gName j) gNil))) (gc2 i j) vs := fun v σ H Q x ρ ρ' ι sr r e h => by
  unfold gc2 at e
  split at e
  · cases e
    obtain ⟨a, us, rfl, s, r⟩ := r
    obtain ⟨u1, u2, rfl, r1, r2⟩ := two_rep r
    exact ⟨a, _, rfl, s, rfl, u1, _, rfl, u2, _, rfl, rfl, h _ ((sr.set r1 i).set r2 j) (wipe_set hj (wipe_set hi (wipe_wipe σ vs)))⟩
  · cases e
theorem ct_three {K : PySem.W.Frag} {i j k : Nat} {vs : List Nat} (hi : i ∈ vs) (hj : j ∈ vs) (hk : k ∈ vs) : CTok K (gTup K 3 (gCons (gName i) (gCons (gName j) (gCons (gName k) gNil)))) (gc3 i j k) vs := fun v σ H Q x ρ ρ' ι sr r e h => by
  unfold gc3 at e
  split at e
  · cases e
    obtain ⟨a, us, rfl, s, r⟩ := r
    obtain ⟨u1, t, rfl, r1, rt⟩ := r
    obtain ⟨u2, u3, rfl, r2, r3⟩ := two_rep rt
    exact ⟨a, _, rfl, s, rfl, u1, _, rfl, u2, _, rfl, u3, _, rfl, rfl, h _ (((sr.set r1 i).set r2 j).set r3 k) (wipe_set hk (wipe_set hj (wipe_set hi (wipe_wipe σ vs))))⟩
  · cases e
section
variable {X : Cx} {W : WS} {elt tg iter : Expr} {ifs : List Expr} {scope : Scope} {own : List (Str × Nat)} {pos : Pos} {di : Rho → Mu → R DI} {g : TG} {dg : PV → Rho → Option Rho} {tt : Dn Bool} {te : Dn PV}
theorem ts_nil {X : Cx} : PTs X [] (LT X.K W0 dYes) := pts_nil.mono fun σ H Q ⟨ρ, μ, ι, sr, hr, h⟩ => h.ok hr rfl
theorem ts_one {X : Cx} {c : Expr} {d : Dn Bool} (h : PT X c (LT X.K W0 d)) : PTs X [c] (LT X.K W0 d) := pts_one h
theorem lift_lc {K : PySem.W.Frag} {vs : List Nat} (ct : CTok K g dg vs) {σ : L2.St} {H : Hp} {Q : VK} (h : LE K W (dLc di dg tt te vs) σ H Q) : tLc (LI K W di) g (LT K W0 tt) (LE K W0 te) vs σ H Q := by
  obtain ⟨ρ, μ, ι, sr, hr, h⟩ := h
  refine ⟨ρ, μ, ι, sr, hr, Post.mono (Post.bind h) ?_⟩
  rintro J H1 ⟨j, μ1, ι1, g1, hr1, r1, h1⟩ D hD
  have gD : Grow K ι1 H1 (ι1 ++ [D]) (upd H1 D (.lst [])) := grow_alloc hD
  have hDi : (ι1 ++ [D])[μ1.length]? = some D := by rw [← hr1.len]; simp
  refine ⟨fun i m H => ∃ μ ι, SR K ι H (wipeP ρ vs) (wipe σ vs) ∧ HR K ι μ H ∧ Grow K (ι1 ++ [D]) (upd H1 D (.lst [])) ι H ∧ Post K (W σ) (fun ι H => Rep K ι H) ι H (dLcN j dg tt te (wipeP ρ vs) μ1.length m i μ) Q,
    ⟨lid, _, ι1 ++ [D], ((sr.grow g1).grow gD).wipe vs, hr1.alloc hD .nil_, .refl, Post.rebase h1 gD⟩, ?_⟩
  rintro i m H2 ⟨μ2, ι2, sr2, hr2, g2, h2⟩
  have hD2 : ι2[μ1.length]? = some D := pre_get g2.pre hDi
  cases m with
  | zero => exact h2.elim
  | succ m =>
    unfold dLcN at h2
    have st := r1.step i ι2 μ2 H2 (gD.trans g2) hr2
    cases q : j μ2 i with
    | none => rw [q] at h2; exact h2.elim
    | some o => cases o with
      | none =>
        rw [q] at h2 st
        exact .inl ⟨st, h2.ok hr2 ⟨D, rfl, hD2⟩⟩
      | some x =>
        rw [q] at h2 st
        simp only at h2 st
        obtain ⟨go, yl⟩ := st
        refine .inr ⟨go, fun H' => ∃ μ ι, SR K ι H' (wipeP ρ vs) (wipe σ vs) ∧ HR K ι μ H' ∧ Grow K (ι1 ++ [D]) (upd H1 D (.lst [])) ι H' ∧ Post K (W σ) (fun ι H => Rep K ι H) ι H' (dLcN j dg tt te (wipeP ρ vs) μ1.length m (i + 1) μ) Q, fun H' q => ⟨m, Nat.lt_succ_self m, q⟩, fun v H3 hy => ?_⟩
        obtain ⟨g3, hr3, r3⟩ := yl v H3 hy
        have sr3 := sr2.grow g3
        cases q2 : dg x (wipeP ρ vs) with
        | none => rw [q2] at h2; exact h2.elim
        | some ρ4 =>
          rw [q2] at h2
          simp only at h2
          refine ct v σ H3 _ x _ ρ4 ι2 sr3 r3 q2 fun σ4 sr4 hw => ⟨hw, ρ4, μ2, ι2, sr4, hr3, ?_⟩
          cases q5 : tt ρ4 μ2 with
          | bad => rw [q5] at h2; exact h2.elim
          | exc e μ => rw [q5] at h2; exact h2.elim
          | ok k μ5 =>
            rw [q5] at h2
            intro k' ι5 H5 g5 hr5 ek
            subst ek
            cases k with
            | false =>
              rw [if_neg Bool.false_ne_true]
              exact ⟨μ5, ι5, sr3.grow g5, hr5, (g2.trans g3).trans g5, Post.rebase h2 (g3.trans g5)⟩
            | true =>
              rw [if_pos rfl]
              simp only at h2
              refine ⟨ρ4, μ5, ι5, sr4.grow g5, hr5, ?_⟩
              cases q6 : te ρ4 μ5 with
              | bad => rw [q6] at h2; exact h2.elim
              | exc e μ => rw [q6] at h2; exact h2.elim
              | ok y μ6 =>
                rw [q6] at h2
                simp only at h2
                intro yv ι6 H6 g6 hr6 ry
                cases q7 : getM μ6 μ1.length with
                | none => rw [q7] at h2; exact h2.elim
                | some acc =>
                  rw [q7] at h2
                  simp only at h2
                  split at h2
                  · rename_i hz
                    obtain ⟨p, us, i1, i2, i3⟩ := getM_at hr6 q7
                    have e1 : ι6[μ1.length]? = some D := pre_get g6.pre (pre_get g5.pre hD2)
                    rw [e1] at i1
                    cases i1
                    have gw : Grow K ι6 H6 ι6 (upd H6 D (.lst (us ++ [yv]))) := grow_write e1 i2
                    refine ⟨us, i2, by rw [i3.length, ← line_eq]; exact hz, _, ι6, ((sr3.grow g5).grow g6).grow gw, hr6.write (getM_of q7) e1 i2 (i3.append (.cons_ ry .nil_)), (((g2.trans g3).trans g5).trans g6).trans gw, Post.rebase h2 (((g3.trans g5).trans g6).trans gw)⟩
                  · exact h2.elim
theorem e_lc (hc : X.calm = true) (hN : X.N.Nodup) (hi : PI X tg iter (LI X.K W di)) (ok : BlkOk X.N X.env.scope scope own)
    (hg : ∀ (s : Shared) (H : Hp) (C : Addr) (cl : List (Str × Addr)) (fp : List Addr), PG (X.blk s H scope (compEnvC scope cl C X.env) fp) tg g)
    (ht : ∀ (s : Shared) (H : Hp) (C : Addr) (cl : List (Str × Addr)) (fp : List Addr), PTs (X.blk s H scope (compEnvC scope cl C X.env) fp) ifs (LT X.K W0 tt))
    (he : ∀ (s : Shared) (H : Hp) (C : Addr) (cl : List (Str × Addr)) (fp : List Addr), PE (X.blk s H scope (compEnvC scope cl C X.env) fp) elt (LE X.K W0 te)) (ct : CTok X.K g dg (own.map (·.2))) (hs : ∀ x, foldedSetIterable iter X.env x = pure x := by intro _; rfl) :
    PE X (.ListComp elt [⟨tg, iter, ifs, 0⟩] scope pos) (LE X.K W (dLc di dg tt te (own.map (·.2)))) :=
  (pe_lc hc hN hi ok hg ht he hs).mono fun σ H Q h => lift_lc ct h
theorem s_setLc {i : Nat} {y : Str} {py spos : Pos} (hc : X.calm = true) (hN : X.N.Nodup) (hi : PI X tg iter (LI X.K W di)) (ok : BlkOk X.N X.env.scope scope own)
    (hg : ∀ (s : Shared) (H : Hp) (C : Addr) (cl : List (Str × Addr)) (fp : List Addr), PG (X.blk s H scope (compEnvC scope cl C X.env) fp) tg g)
    (ht : ∀ (s : Shared) (H : Hp) (C : Addr) (cl : List (Str × Addr)) (fp : List Addr), PTs (X.blk s H scope (compEnvC scope cl C X.env) fp) ifs (LT X.K W0 tt))
    (he : ∀ (s : Shared) (H : Hp) (C : Addr) (cl : List (Str × Addr)) (fp : List Addr), PE (X.blk s H scope (compEnvC scope cl C X.env) fp) elt (LE X.K W0 te)) (ct : CTok X.K g dg (own.map (·.2)))
    (hy : X.N[i]? = some y := by rfl) (hyl : X.env.scope.names.lookup y = some .local := by rfl)
    (hsw : swapsWith (.ListComp elt [⟨tg, iter, ifs, 0⟩] scope pos) (some (.Name y py)) spos.line X.env = pure true := by exact sw_true rfl rfl rfl (by decide +kernel)) (hs : ∀ x, foldedSetIterable iter X.env x = pure x := by intro _; rfl) :
    PS X (.Assign [.Name y py] (.ListComp elt [⟨tg, iter, ifs, 0⟩] scope pos) spos) (LS X.K W (dAsg (dLc di dg tt te (own.map (·.2))) (gN i))) := by
  refine (ps_setLc hc hN hy hyl hsw hi ok hg ht he hs).mono fun D σ H ⟨ρ, μ, ι, sr, hr, h⟩ => ?_
  refine lift_lc ct ⟨ρ, μ, ι, sr, hr, Post.mono (Post.thn sr h) ?_⟩
  rintro v H1 ⟨x, μ1, ι1, g1, hr1, r1, sr1, h1⟩
  exact h1 _ ι1 H1 .refl hr1 (sr1.set r1 i)
end
end GB
set_option Elab.async false
set_option linter.all false
set_option maxRecDepth 100000
set_option maxHeartbeats 2000000
namespace GB
open PySem PySem.Spec PyProof.Rows L2
/-! ### defs that let no exception out -/
abbrev NoE : WE := fun _ _ _ _ => False
abbrev DF := List PV → Mu → R PV
def R.nex {α : Type} (r : R α) : R α := match r with
  | .ok a μ => .ok a μ
  | _ => .bad
@[simp] theorem R.nex_ok {α : Type} {a : α} {μ : Mu} : (R.ok a μ).nex = .ok a μ := ndf rfl
def sp0 (K : PySem.W.Frag) (n : Nat) (f : DF) : Sp := fun vs H Q _ => ∃ as μ ι, as.length = n ∧ RepL K ι H as vs ∧ HR K ι μ H ∧ Post K NoE (fun ι H => Rep K ι H) ι H (f as μ).nex Q
theorem sp0_len {K : PySem.W.Frag} {n : Nat} {f : DF} {vs : List V} {H : Hp} {Q : VK} {E : XK} (h : sp0 K n f vs H Q E) : vs.length = n := by
  obtain ⟨as, μ, ι, e, r, _⟩ := h
  rw [r.length, e]
def runF (N : Nat) (d : DS) : DF := fun as μ => match d (as.map some ++ List.replicate (N - as.length) none) μ with
  | .rt v μ => .ok v μ
  | .nx _ μ => .ok .non μ
  | _ => .bad
theorem SR.start {K : PySem.W.Frag} {ι : List Addr} {H : Hp} (m : Nat) : ∀ {as : List PV} {vs : List V}, RepL K ι H as vs → SR K ι H (as.map some ++ List.replicate m none) (vs.map some ++ List.replicate m none)
  | [], _, r => by
    rw [show _ = [] from r]
    show SR K ι H (List.replicate m none) (List.replicate m none)
    induction m with
    | zero => rfl
    | succ m ih => exact ⟨none, _, rfl, trivial, ih⟩
  | a :: as, _, ⟨v, t, e, r1, r2⟩ => by
    subst e
    exact ⟨some v, _, rfl, ⟨v, rfl, r1⟩, SR.start m r2⟩
theorem body0 {K : PySem.W.Frag} {n : Nat} {N : List Str} {d : DS} {vs : List V} {H : Hp} {Q : VK} {E : XK} (h : sp0 K n (runF N.length d) vs H Q E) :
    LS K W0 d { nx := fun _ H' => Q .non H', rt := Q } (L2.start N vs) H := by
  obtain ⟨as, μ, ι, e, r, hr, h⟩ := h
  unfold L2.start
  rw [r.length]
  refine ⟨_, μ, ι, SR.start _ r, hr, ?_⟩
  unfold runF at h
  cases q : d (as.map some ++ List.replicate (N.length - as.length) none) μ with
  | rt v μ' => rw [q] at h; exact fun u ι' H' g hr' rr => h u ι' H' g hr' rr
  | nx ρ μ' => rw [q] at h; exact fun σ' ι' H' g hr' _ => h .non ι' H' g hr' rfl
  | bk ρ μ' => rw [q] at h; exact h.elim
  | ct ρ μ' => rw [q] at h; exact h.elim
  | exc e ρ μ' => rw [q] at h; exact h.elim
  | bad => rw [q] at h; exact h
def dCall (n : Nat) (f : DF) (a : Dn (List PV)) : Dn PV := fun ρ μ => (a ρ μ).bind fun as μ => if as.length = n then (f as μ).nex else .bad
/-- a weaker promise: where g tells a result, f tells the same -/
theorem sp0_imp {K : PySem.W.Frag} {n : Nat} {f g : DF} (h : ∀ as μ v μ', as.length = n → g as μ = .ok v μ' → f as μ = .ok v μ') {vs : List V} {H : Hp} {Q : VK} {E : XK} (q : sp0 K n g vs H Q E) : sp0 K n f vs H Q E := by
  obtain ⟨as, μ, ι, e, r, hr, q⟩ := q
  refine ⟨as, μ, ι, e, r, hr, ?_⟩
  cases z : g as μ with
  | ok v μ' => rw [h as μ v μ' e z]; rw [z] at q; exact q
  | exc e μ' => rw [z] at q; exact q.elim
  | bad => rw [z] at q; exact q.elim
section
variable {P : Program} {w : World} {K : PySem.W.Frag} {mg : Str → Option Value} {base : Heap}
/-- THE RULE for a def -/
theorem fn0 {x qual : Str} {params : Arguments} {body : List Stmt} {scope : Scope} {f : Addr} {fd : FuncData} {N ps : List Str} {k n : Nat} {d : DS} (F : FunD K x qual params body scope [] [] f fd) (S : FnScope N ps scope) (hn : ps.length = n)
    (hb : ∀ (cdv : Value) (A : Around) (outer : List Env) (s : Shared) (H : Hp) (E : XK), Room k (A.deeper (envOfC qual scope s.heap.objs.size f cdv)) → PSs (cxOf CX0 P w K mg base N qual scope f cdv A outer s H E).nox body (LS K W0 d)) : FnOk P w K mg base CX0 (k + 1) f fd ps (sp0 K n (runF N.length d)) :=
  F.ok S (fun vs H Q E h => by rw [sp0_len h, hn]) fun cdv A outer s H vs Q E hr h => ⟨LS K W0 d, PSs.nox (hb cdv A outer s H E hr), body0 h⟩
end
/-! ### calls -/
section
variable {X : Cx} {W : WS} {k n : Nat} {f : Addr} {fd : FuncData} {ps : List Str} {g : DF} {x : Str} {p pos : Pos} {e : Expr} {es : List Expr} {dl : Dn (List PV)}
theorem lift_call {K : PySem.W.Frag} {σ : L2.St} {H : Hp} {Q : VK} {E : XK} (h : LE K W (dCall n g dl) σ H Q) : tCall (sp0 K n g) [] E (LA K W dl) σ H Q := by
  obtain ⟨ρ, μ, ι, sr, hr, h⟩ := h
  refine ⟨ρ, μ, ι, sr, hr, Post.mono (Post.bind h) ?_⟩
  rintro v H1 ⟨as, μ1, ι1, g1, hr1, r1, h1⟩
  split at h1
  · rename_i hn
    refine ⟨as, μ1, ι1, hn, by rw [List.append_nil]; exact r1, hr1, ?_⟩
    cases z : g as μ1 with
    | ok v μ' => rw [z] at h1; exact h1
    | exc e μ' => rw [z] at h1; exact h1.elim
    | bad => rw [z] at h1; exact h1.elim
  · exact h1.elim
theorem e_call (F : FnOk X.prog X.w X.K X.mg X.base CX0 k f fd ps (sp0 X.K n g)) (hr : Room k X.A) (hm : X.mg x = some (.ref f)) (hk : PySem.W.keepIn X.K (.ref f) = true) (hb : Binds X.K fd ps [])
    (ha : PA X (e :: es) (LA X.K W dl)) (hg : Gl X x := by rfl) (hdb : (x == ("__debug__" : Str)) = false := by decide) (he : starEach (e :: es) X.env = (false, eval e X.env) :: starEach es X.env := by rfl) (hpl : (backTo pos (starEach es X.env)).any (·.1) = false := by rfl) :
    PE X (.Call (.Name x p) (e :: es) [] pos) (LE X.K W (dCall n g dl)) :=
  (pe_call F hr hg hm hk hb .nil pass0 ha hdb he hpl).mono fun σ H Q h => lift_call h
theorem e_call0 (F : FnOk X.prog X.w X.K X.mg X.base CX0 k f fd ps (sp0 X.K 0 g)) (hr : Room k X.A) (hm : X.mg x = some (.ref f)) (hk : PySem.W.keepIn X.K (.ref f) = true) (hb : Binds X.K fd ps [])
    (hg : Gl X x := by rfl) (hdb : (x == ("__debug__" : Str)) = false := by decide) :
    PE X (.Call (.Name x p) [] [] pos) (LE X.K W (dCall 0 g dNil)) :=
  (pe_call0 F hr hg hm hk hb .nil pass0 hdb).mono fun σ H Q h => by
    obtain ⟨ρ, μ, ι, sr, hr, h⟩ := h
    have h2 : Post X.K (W σ) (fun ι H => Rep X.K ι H) ι H ((g [] μ).nex) Q := h
    have h3 : Post X.K NoE (fun ι H => Rep X.K ι H) ι H ((g [] μ).nex) Q := by
      cases z : g [] μ with
      | ok v μ' => rw [z] at h2; exact h2
      | exc e μ' => rw [z] at h2; exact h2.elim
      | bad => rw [z] at h2; exact h2.elim
    exact ⟨[], μ, ι, rfl, .nil_, hr, h3⟩
end
/-! ### the law's end -/
def scriptP (ns : List Int) : Mu := [.ro (ns.map .int)]
theorem law_end {l : PySem.W.OpenLaw} {n k : Nat} {q : Program} {loose : List Str} {XP : (Str → Option Value) → Heap → Prop} {YP : World → Heap → Prop} {d : DefRec} {x : Str} {f : DF}
    (hn : l.most = some n) (hn2 : n ≤ sizeLine) (hdf : d.params.defaults = []) (hr : Room k callerA)
    (F : ∀ (w : World) (mg : Str → Option Value) (fa : Addr) (h : Heap), YP w h → h.Ns mainGlobals mg → mg d.name = some (.ref fa) →
      ∃ (K : PySem.W.Frag) (fd : FuncData), K.In h ∧ (∀ (s : Shared) (u : Value), BindsTo s fd ⟨[u], []⟩ [(x, u)]) ∧
        ∀ base : Heap, K.In base → base.Ns mainGlobals mg → FnOk l.prog w K mg base CX0 k fa fd [x] (sp0 K 1 f))
    (hf : ∀ ns : List Int, ns.length ≤ n → (∀ z ∈ ns, Builtin.Int.intBits z ≤ 1048576) → ∃ μ, f [.ref 0] (scriptP ns) = .ok (.bl true) μ) :
    PySem.W.WalkO q loose XP YP l.row.toRowW d [] (fun f vs => PySem.call f vs) := by
  refine Att.attach_callB hn hdf fun w s₀ s₁ mg mb fa o pm cd doc a vs ns G Y ho hd hcd hmg hobj hints hlen hbits hg => ?_
  obtain ⟨K, fd, KX, hb, hF⟩ := F w mg fa _ Y G.T.g hmg
  refine law_call KX G.T.g G.T.b G.T.builtins G.T.nolimit hg hobj hints (Nat.le_trans hlen hn2) hr hF hb (fun H hO hS => ?_) fun H e s' h => h
  obtain ⟨μ, e⟩ := hf ns hlen hbits
  refine ⟨[.ref 0], scriptP ns, [a], rfl, .cons_ ⟨a, rfl, rfl⟩ .nil_, ⟨fun l k b xs ys e1 => ?_, rfl, fun l ob b e1 e2 => ?_⟩, ?_⟩
  · unfold scriptP at e1
    cases l with
    | zero => simp at e1
    | succ l => simp at e1
  · unfold scriptP at e1
    cases l with
    | succ l => simp at e1
    | zero =>
      simp at e1 e2
      subst e1; subst e2
      refine ⟨ns.map V.int, ?_, rep_ints ns⟩
      rcases hS with (h | ⟨o, h⟩) | h
      · rcases hO a with z | ⟨o, xs, z⟩
        · rw [h] at z; cases z
        · rw [h] at z; cases z
      · exact .inl ⟨o, h⟩
      · exact .inr h
  · rw [e]
    exact fun v ι' H' _ _ r => r
end GB
set_option Elab.async false
set_option linter.all false
set_option maxRecDepth 100000
set_option maxHeartbeats 2000000
namespace GB
open PySem PySem.Spec PyProof.Rows L2
/-! ### a def that may be called -/
structure Cal (P : Program) (w : World) (K : PySem.W.Frag) (mg : Str → Option Value) (base : Heap) (x : Str) (lvl n : Nat) (g : DF) : Prop where
  ex : ∃ (f : Addr) (fd : FuncData) (ps : List Str), mg x = some (.ref f) ∧ PySem.W.keepIn K (.ref f) = true ∧ Binds K fd ps [] ∧ FnOk P w K mg base CX0 lvl f fd ps (sp0 K n g)
section
variable {P : Program} {w : World} {K : PySem.W.Frag} {mg : Str → Option Value} {base : Heap}
theorem Cal.imp {x : Str} {lvl n : Nat} {f g : DF} (c : Cal P w K mg base x lvl n f) (h : ∀ as μ v μ', as.length = n → g as μ = .ok v μ' → f as μ = .ok v μ') : Cal P w K mg base x lvl n g := by
  obtain ⟨a, fd, ps, h1, h2, h3, h4⟩ := c.ex
  exact ⟨a, fd, ps, h1, h2, h3, h4.imp fun vs H Q E q => sp0_imp h q⟩
theorem Cal.up {x : Str} {lvl lvl' n : Nat} {f : DF} (c : Cal P w K mg base x lvl n f) (h : lvl ≤ lvl') : Cal P w K mg base x lvl' n f := by
  obtain ⟨a, fd, ps, h1, h2, h3, h4⟩ := c.ex
  exact ⟨a, fd, ps, h1, h2, h3, h4.mono h⟩
theorem cal_of {x qual : Str} {params : Arguments} {body : List Stmt} {scope : Scope} {f : Addr} {fd : FuncData} {N ps : List Str} {k n : Nat} {d : DS} (F : FunD K x qual params body scope [] [] f fd) (S : FnScope N ps scope) (hn : ps.length = n) (hm : mg x = some (.ref f))
    (hbind : ∀ (kV doc pm : Value) (an : Option Addr) (cdv ct : Value) (us : List Value), us.length = ps.length → bindArgs (PySem.W.fnOf x qual params body scope .none kV doc pm an cdv ct) ⟨us, []⟩ = pure (ps.zip us))
    (hb : ∀ (cdv : Value) (A : Around) (outer : List Env) (s : Shared) (H : Hp) (E : XK), Room k (A.deeper (envOfC qual scope s.heap.objs.size f cdv)) → PSs (cxOf CX0 P w K mg base N qual scope f cdv A outer s H E).nox body (LS K W0 d)) :
    Cal P w K mg base x (k + 1) n (runF N.length d) :=
  ⟨f, fd, ps, hm, F.kp, F.bindsN hbind, fn0 F S hn hb⟩
end
section
variable {X : Cx} {W : WS} {k n : Nat} {g : DF} {x : Str} {p pos : Pos} {e : Expr} {es : List Expr} {dl : Dn (List PV)}
theorem e_callC (C : Cal X.prog X.w X.K X.mg X.base x k n g) (hr : Room k X.A)
    (ha : PA X (e :: es) (LA X.K W dl)) (hg : Gl X x := by rfl) (hdb : (x == ("__debug__" : Str)) = false := by decide) (he : starEach (e :: es) X.env = (false, eval e X.env) :: starEach es X.env := by rfl) (hpl : (backTo pos (starEach es X.env)).any (·.1) = false := by rfl) :
    PE X (.Call (.Name x p) (e :: es) [] pos) (LE X.K W (dCall n g dl)) := by
  obtain ⟨f, fd, ps, h1, h2, h3, h4⟩ := C.ex
  exact e_call h4 hr h1 h2 h3 ha hg hdb he hpl
theorem e_callC0 (C : Cal X.prog X.w X.K X.mg X.base x k 0 g) (hr : Room k X.A) (hg : Gl X x := by rfl) (hdb : (x == ("__debug__" : Str)) = false := by decide) : PE X (.Call (.Name x p) [] [] pos) (LE X.K W (dCall 0 g dNil)) := by
  obtain ⟨f, fd, ps, h1, h2, h3, h4⟩ := C.ex
  exact e_call0 h4 hr h1 h2 h3 hg hdb
end
/-- the built-ins that the module does not shadow -/
structure Blt (mg : Str → Option Value) : Prop where
  abs : mg "abs" = none
  all : mg "all" = none
  any : mg "any" = none
  bool : mg "bool" = none
  dict : mg "dict" = none
  enumerate : mg "enumerate" = none
  int : mg "int" = none
  isinstance : mg "isinstance" = none
  len : mg "len" = none
  list : mg "list" = none
  max : mg "max" = none
  min : mg "min" = none
  range : mg "range" = none
  set : mg "set" = none
  sorted : mg "sorted" = none
  str : mg "str" = none
  sum : mg "sum" = none
  tuple : mg "tuple" = none
  zip : mg "zip" = none
  valueError : mg "ValueError" = none
  super : mg "super" = none
def bltNames : List Str := ["abs", "all", "any", "bool", "dict", "enumerate", "int", "isinstance", "len", "list", "max", "min", "range", "set", "sorted", "str", "sum", "tuple", "zip", "ValueError", "super"]
theorem blt_of {mg : Str → Option Value} (h : ∀ (i : Nat) (x : Str), bltNames[i]? = some x → mg x = none) : Blt mg :=
  ⟨h 0 _ rfl, h 1 _ rfl, h 2 _ rfl, h 3 _ rfl, h 4 _ rfl, h 5 _ rfl, h 6 _ rfl, h 7 _ rfl, h 8 _ rfl, h 9 _ rfl, h 10 _ rfl, h 11 _ rfl, h 12 _ rfl, h 13 _ rfl, h 14 _ rfl, h 15 _ rfl, h 16 _ rfl, h 17 _ rfl, h 18 _ rfl, h 19 _ rfl, h 20 _ rfl⟩

/-! ### enumerate of a list -/
def diEnumL (a : Dn (List PV)) : Rho → Mu → R DI := fun ρ μ => (a ρ μ).bind fun xs μ => match xs with
  | [.ref l] => match getL μ l with
    | some _ => .ok (jEnum (jLst l)) μ
    | none => .bad
  | _ => .bad
theorem itl_enum {K : PySem.W.Frag} {ι : List Addr} {H : Hp} {l : Nat} {a : Addr} (hi : ι[l]? = some a) : ItL K ι H (jEnum (jLst l)) (Ite K a) := ⟨fun i ι1 μ1 H1 g hr => by
  unfold jEnum jLst
  cases q : getL μ1 l with
  | none => exact trivial
  | some xs =>
    obtain ⟨a1, vs, h1, h2, h3, _⟩ := getL_sq hr q
    have e := pre_get g.pre hi
    rw [h1] at e
    cases e
    simp only [Option.map_some]
    cases q2 : xs[i]? with
    | none =>
      refine ⟨vs, h2, ?_⟩
      rw [h3.length]
      exact List.getElem?_eq_none_iff.mp q2
    | some x =>
      obtain ⟨u, e1, e2⟩ := h3.get q2
      refine ⟨⟨vs, u, h2, e1⟩, fun v H' ⟨T, x', e3, e4, e5, e6⟩ => ?_⟩
      subst e3 e5
      have z1 := e6 vs h2
      rw [e1] at z1
      cases z1
      exact ⟨grow_new e4, hr.new e4, T, _, rfl, .of upd_same, .cons_ rfl (.cons_ (e2.grow (grow_new e4)) .nil_)⟩⟩
theorem i_enum {X : Cx} {W : WS} {e : Expr} {p pos tpos : Pos} {dl : Dn (List PV)} {elts : List Expr} {kk : Nat} (hm : X.mg "enumerate" = none) (ha : PA X [e] (LA X.K W dl)) (hg : Gl X "enumerate" := by rfl) (hs : starEach [e] X.env = [(false, eval e X.env)] := by rfl) :
    PI X (.Tuple elts kk tpos) (.Call (.Name "enumerate" p) [e] [] pos) (LI X.K W (diEnumL dl)) := pi_mono (pi_enum hg hm ha hs) fun σ H R ⟨ρ, μ, ι, sr, hr, h⟩ => by
  refine ⟨ρ, μ, ι, sr, hr, Post.mono (Post.bind h) ?_⟩
  rintro v H1 ⟨x, μ1, ι1, g1, hr1, r1, h1⟩
  split at h1
  · obtain ⟨u, rfl, r2⟩ := one_rep r1
    split at h1
    · rename_i q1
      obtain ⟨a1, vs, i1, i2, _⟩ := getL_sq hr1 q1
      obtain rfl := ref_eq r2 i1
      exact ⟨a1, vs, rfl, i2, h1.ok hr1 (itl_enum i1)⟩
    · exact h1.elim
  · exact h1.elim
end GB
namespace GB
open PySem PySem.Spec PyProof.Rows L2
section
variable {P : Program} {w : World} {K : PySem.W.Frag} {mg : Str → Option Value} {base : Heap}
/-- a def of which nothing is promised -/
theorem cal_bad {x qual : Str} {params : Arguments} {body : List Stmt} {scope : Scope} {f : Addr} {fd : FuncData} {N ps : List Str} {k n : Nat} (F : FunD K x qual params body scope [] [] f fd) (S : FnScope N ps scope) (hn : ps.length = n) (hm : mg x = some (.ref f))
    (hbind : ∀ (kV doc pm : Value) (an : Option Addr) (cdv ct : Value) (us : List Value), us.length = ps.length → bindArgs (PySem.W.fnOf x qual params body scope .none kV doc pm an cdv ct) ⟨us, []⟩ = pure (ps.zip us)) :
    Cal P w K mg base x k n (fun _ _ => .bad) :=
  ⟨f, fd, ps, hm, F.kp, F.bindsN hbind, ⟨fun vs H Q E h => by rw [sp0_len h, hn], fun A outer s H args us vs Q E hr he hb r h => by
    obtain ⟨as, μ, ι, e, r, hr, h⟩ := h
    exact h.elim⟩⟩
end
end GB
set_option Elab.async false
set_option linter.all false
set_option maxRecDepth 100000
set_option maxHeartbeats 2000000
namespace GB
open PySem PySem.Spec PyProof.Rows L2
/-! ### values without locations; the frame -/
mutual
def low : PV → Bool
  | .ref _ => false
  | .tup xs => lowL xs
  | _ => true
def lowL : List PV → Bool
  | [] => true
  | x :: xs => low x && lowL xs
end
section
variable {K : PySem.W.Frag} {ι ι2 : List Addr} {H H2 : Hp}
mutual
theorem Rep.low0 : ∀ {x : PV} {v : V}, low x = true → Rep K ι H x v → Rep K ι2 H x v
  | .non, _, _, h => h
  | .bl _, _, _, h => h
  | .int _, _, _, h => h
  | .str _, _, _, h => h
  | .tup xs, _, l, ⟨a, vs, e, s, r⟩ => ⟨a, vs, e, s, RepL.low0 (by simpa [low] using l) r⟩
  | .ref _, _, l, _ => by simp [low] at l
  | .raw _, _, _, h => h
theorem RepL.low0 : ∀ {xs : List PV} {vs : List V}, lowL xs = true → RepL K ι H xs vs → RepL K ι2 H xs vs
  | [], _, _, h => h
  | x :: xs, _, l, ⟨v, r, e, h1, h2⟩ => by
    simp only [lowL, Bool.and_eq_true] at l
    exact ⟨v, r, e, Rep.low0 l.1 h1, RepL.low0 l.2 h2⟩
end
mutual
theorem Rep.shrink (p : ι <+: ι2) : ∀ {x : PV} {u v : V}, Rep K ι H x u → Rep K ι2 H2 x v → Rep K ι H2 x v
  | .non, _, _, _, h => h
  | .bl _, _, _, _, h => h
  | .int _, _, _, _, h => h
  | .str _, _, _, _, h => h
  | .tup xs, _, _, ⟨_, _, _, _, q⟩, ⟨a, vs, e, s, r⟩ => ⟨a, vs, e, s, RepL.shrink p q r⟩
  | .ref l, _, _, ⟨a, _, h1⟩, ⟨b, e, h2⟩ => by
    have := pre_get p h1
    rw [h2] at this
    cases this
    exact ⟨_, e, h1⟩
  | .raw _, _, _, _, h => h
theorem RepL.shrink (p : ι <+: ι2) : ∀ {xs : List PV} {us vs : List V}, RepL K ι H xs us → RepL K ι2 H2 xs vs → RepL K ι H2 xs vs
  | [], _, _, _, h => h
  | x :: xs, _, _, ⟨_, _, _, q1, q2⟩, ⟨v, r, e, h1, h2⟩ => ⟨v, r, e, Rep.shrink p q1 h1, RepL.shrink p q2 h2⟩
end
mutual
theorem Rep.tups (g : ∀ a vs, SqT K H a vs → SqT K H2 a vs) : ∀ {x : PV} {v : V}, Rep K ι H x v → Rep K ι H2 x v
  | .non, _, h => h
  | .bl _, _, h => h
  | .int _, _, h => h
  | .str _, _, h => h
  | .tup xs, _, ⟨a, vs, e, s, r⟩ => ⟨a, vs, e, g a vs s, RepL.tups g r⟩
  | .ref _, _, h => h
  | .raw _, _, h => h
theorem RepL.tups (g : ∀ a vs, SqT K H a vs → SqT K H2 a vs) : ∀ {xs : List PV} {vs : List V}, RepL K ι H xs vs → RepL K ι H2 xs vs
  | [], _, h => h
  | _ :: _, _, ⟨v, r, e, h1, h2⟩ => ⟨v, r, e, Rep.tups g h1, RepL.tups g h2⟩
end
theorem ObjR.still {a : Addr} {o : Ob} (g : ∀ a vs, SqT K H a vs → SqT K H2 a vs) (k : ∀ u, H a = some u → H2 a = some u) (q : ObjR K ι H a o) : ObjR K ι H2 a o := by
  cases o with
  | lst xs => obtain ⟨vs, e, r⟩ := q; exact ⟨vs, k _ e, r.tups g⟩
  | ro xs =>
    obtain ⟨vs, e, r⟩ := q
    refine ⟨vs, ?_, r.tups g⟩
    rcases e with ⟨o, e⟩ | e
    · exact .inl ⟨o, k _ e⟩
    · exact .inr e
/-- a call that was told over no location at all: everything stands as it stood -/
theorem still_all {μ : Mu} {ι' : List Addr} {H' : Hp} (h : HR K ι μ H) (g : Grow K [] H ι' H') : Grow K ι H ι H' ∧ HR K ι μ H' :=
  ⟨⟨List.prefix_refl _, g.tup, fun a o _ e => g.frm a o (by simp) e, fun _ h => .inl h⟩, h.nd, h.len, fun l o a e1 e2 => (h.obj l o a e1 e2).still g.tup fun u e => g.frm a u (by simp) e⟩
theorem hr_nil : HR K [] [] H := ⟨fun l k a xs ys e => by simp at e, rfl, fun l o a e => by simp at e⟩
end
section
variable {P : Program} {w : World} {K : PySem.W.Frag} {mg : Str → Option Value} {base : Heap} {x : Str} {lvl n : Nat} {f : DF}
theorem Cal.of_sp {g : DF} (c : Cal P w K mg base x lvl n f) (h : ∀ vs H Q E, sp0 K n g vs H Q E → sp0 K n f vs H Q E) : Cal P w K mg base x lvl n g := by
  obtain ⟨a, fd, ps, h1, h2, h3, h4⟩ := c.ex
  exact ⟨a, fd, ps, h1, h2, h3, h4.imp h⟩
/-- a def of values alone: its value by F -/
def gV (F : List PV → Option PV) : DF := fun as μ => match F as with
  | some v => .ok v μ
  | none => .bad
theorem Cal.toV (c : Cal P w K mg base x lvl n f) (F : List PV → Option PV) (h : ∀ as v, as.length = n → F as = some v → lowL as = true ∧ low v = true ∧ ∃ μ', f as [] = .ok v μ') : Cal P w K mg base x lvl n (gV F) := by
  refine c.of_sp fun vs H Q E q => ?_
  obtain ⟨as, μ, ι, e, r, hr, q⟩ := q
  unfold gV at q
  cases z : F as with
  | none => rw [z] at q; exact q.elim
  | some v =>
    rw [z] at q
    obtain ⟨l1, l2, μ', ef⟩ := h as v e z
    refine ⟨as, [], [], e, r.low0 l1, hr_nil, ?_⟩
    rw [ef]
    intro u ι' H' g hr' ru
    obtain ⟨g2, hr2⟩ := still_all hr g
    exact q u ι H' g2 hr2 (ru.low0 l2)
/-- .. that hands back a new list of values -/
def gL (F : List PV → Option (List PV)) : DF := fun as μ => match F as with
  | some xs => .ok (.ref μ.length) (μ ++ [.lst xs])
  | none => .bad
theorem Cal.toL (c : Cal P w K mg base x lvl n f) (F : List PV → Option (List PV)) (h : ∀ as xs, as.length = n → F as = some xs → lowL as = true ∧ lowL xs = true ∧ ∃ l μ', f as [] = .ok (.ref l) μ' ∧ getM μ' l = some xs) : Cal P w K mg base x lvl n (gL F) := by
  refine c.of_sp fun vs H Q E q => ?_
  obtain ⟨as, μ, ι, e, r, hr, q⟩ := q
  unfold gL at q
  cases z : F as with
  | none => rw [z] at q; exact q.elim
  | some xs =>
    rw [z] at q
    obtain ⟨l1, l2, l, μ', ef, em⟩ := h as xs e z
    refine ⟨as, [], [], e, r.low0 l1, hr_nil, ?_⟩
    rw [ef]
    intro u ι' H' g hr' ru
    obtain ⟨g2, hr2⟩ := still_all hr g
    obtain ⟨p, us, i1, i2, i3⟩ := getM_at hr' em
    obtain rfl := ref_eq ru i1
    have hp : H p = none := by
      rcases g.new p (List.mem_of_getElem? i1) with q | q
      · simp at q
      · exact q
    have pre : ∀ l : Nat, ι[l]? = some p → ∃ o, μ[l]? = some o := fun l e => by
      obtain ⟨hl, _⟩ := List.getElem?_eq_some_iff.mp e
      exact ⟨μ[l]'(by rw [← hr.len]; exact hl), List.getElem?_eq_getElem _⟩
    have g3 : Grow K ι H (ι ++ [p]) H' := ⟨List.prefix_append _ _, g.tup, fun a o _ e => g.frm a o (by simp) e, fun q hq => by
      rcases List.mem_append.mp hq with z | z
      · exact .inl z
      · have e : q = p := by simpa using z
        subst e; exact .inr hp⟩
    have sp : ∀ (l : Nat) (ob : Ob) (a : Addr), (μ ++ [.lst xs])[l]? = some ob → (ι ++ [p])[l]? = some a → (l < μ.length ∧ μ[l]? = some ob ∧ ι[l]? = some a) ∨ (l = μ.length ∧ ob = .lst xs ∧ a = p) := by
      intro l ob a e1 e2
      by_cases hl : l < μ.length
      · rw [List.getElem?_append_left hl] at e1
        rw [List.getElem?_append_left (by rw [hr.len]; exact hl)] at e2
        exact .inl ⟨hl, e1, e2⟩
      · have hl2 : l = μ.length := by
          obtain ⟨q, _⟩ := List.getElem?_eq_some_iff.mp e1
          rw [List.length_append] at q
          simp at q
          omega
        subst hl2
        rw [List.getElem?_append_right (Nat.le_refl _)] at e1
        rw [List.getElem?_append_right (by rw [hr.len]; exact Nat.le_refl _), hr.len] at e2
        simp at e1 e2
        exact .inr ⟨rfl, e1.symm, e2.symm⟩
    have np : ∀ (l : Nat) (ys : List PV), μ[l]? = some (.lst ys) → ι[l]? = some p → False := fun l ys e1 e2 => by
      obtain ⟨us, e, _⟩ := hr.obj l _ p e1 e2
      rw [hp] at e; cases e
    refine q (.ref p) (ι ++ [p]) H' g3 ⟨fun l k a ys zs e1 e2 e3 e4 => ?_, by rw [List.length_append, List.length_append, hr.len]; rfl, fun l ob a e1 e2 => ?_⟩ ⟨p, rfl, by rw [← hr.len]; simp⟩
    · rcases sp l _ a e1 e3 with ⟨a1, a2, a3⟩ | ⟨a1, a2, a3⟩ <;> rcases sp k _ a e2 e4 with ⟨b1, b2, b3⟩ | ⟨b1, b2, b3⟩
      · exact hr.nd l k a ys zs a2 b2 a3 b3
      · subst b3; exact (np l ys a2 a3).elim
      · subst a3; exact (np k zs b2 b3).elim
      · rw [a1, b1]
    · rcases sp l ob a e1 e2 with ⟨a1, a2, a3⟩ | ⟨a1, a2, a3⟩
      · exact (hr.obj l ob a a2 a3).grow g3 fun u e => g.frm a u (by simp) e
      · subst a2; subst a3
        exact ⟨us, i2, i3.low0 l2⟩
/-- a def that hands back a value and leaves all lists as they were, whatever it made -/
def gA (F : List PV → Mu → Option PV) : DF := fun as μ => match F as μ with
  | some v => .ok v μ
  | none => .bad
theorem Cal.toA (c : Cal P w K mg base x lvl n f) (F : List PV → Mu → Option PV) (h : ∀ as μ v, as.length = n → F as μ = some v → low v = true ∧ ∃ junk, f as μ = .ok v (μ ++ junk)) : Cal P w K mg base x lvl n (gA F) := by
  refine c.of_sp fun vs H Q E q => ?_
  obtain ⟨as, μ, ι, e, r, hr, q⟩ := q
  unfold gA at q
  cases z : F as μ with
  | none => rw [z] at q; exact q.elim
  | some v =>
    rw [z] at q
    obtain ⟨l1, junk, ef⟩ := h as μ v e z
    refine ⟨as, μ, ι, e, r, hr, ?_⟩
    rw [ef]
    intro u ι' H' g hr' ru
    refine q u ι H' ⟨List.prefix_refl _, g.tup, g.frm, fun _ h => .inl h⟩ ⟨hr.nd, hr.len, fun l o a e1 e2 => ?_⟩ (ru.low0 l1)
    obtain ⟨hl, _⟩ := List.getElem?_eq_some_iff.mp e1
    have e3 : (μ ++ junk)[l]? = some o := by rw [List.getElem?_append_left hl]; exact e1
    have q1 := hr'.obj l o a e3 (pre_get g.pre e2)
    have q0 := hr.obj l o a e1 e2
    cases o with
    | lst xs =>
      obtain ⟨vs, e, r⟩ := q1
      obtain ⟨_, _, r0⟩ := q0
      exact ⟨vs, e, r0.shrink g.pre r⟩
    | ro xs =>
      obtain ⟨vs, e, r⟩ := q1
      obtain ⟨_, _, r0⟩ := q0
      exact ⟨vs, e, r0.shrink g.pre r⟩
/-- a def whose first argument is a list of values that it may change; it hands back a value -/
def gU (F : List PV → List PV → Option (PV × List PV)) : DF := fun as μ => match as with
  | .ref l :: r => match getM μ l with
    | some u => match F u r with
      | some (v, u') => .ok v (μ.set l (.lst u'))
      | none => .bad
    | none => .bad
  | _ => .bad
theorem Cal.toU (c : Cal P w K mg base x lvl n f) (F : List PV → List PV → Option (PV × List PV)) (h : ∀ u r v u', r.length + 1 = n → F u r = some (v, u') → lowL u = true ∧ lowL r = true ∧ low v = true ∧ lowL u' = true ∧ ∃ μ', f (.ref 0 :: r) [.lst u] = .ok v μ' ∧ getM μ' 0 = some u') :
    Cal P w K mg base x lvl n (gU F) := by
  refine c.of_sp fun vs H Q E q => ?_
  obtain ⟨as, μ, ι, e, r, hr, q⟩ := q
  unfold gU at q
  split at q
  · rename_i l rs
    cases z : getM μ l with
    | none => rw [z] at q; exact q.elim
    | some u =>
      rw [z] at q
      simp only at q
      cases z2 : F u rs with
      | none => rw [z2] at q; exact q.elim
      | some vu =>
        obtain ⟨v, u'⟩ := vu
        rw [z2] at q
        simp only at q
        obtain ⟨l1, l2, l3, l4, μ', ef, em⟩ := h u rs v u' (by simpa using e) z2
        obtain ⟨p, us, i1, i2, i3⟩ := getM_at hr z
        obtain ⟨v0, vr, rfl, r1, r2⟩ := r
        obtain rfl := ref_eq r1 i1
        have hz := getM_of z
        refine ⟨.ref 0 :: rs, [.lst u], [p], e, .cons_ ⟨p, rfl, rfl⟩ (r2.low0 l2), ⟨fun l k a xs ys e1 e2 _ _ => ?_, rfl, fun l o a e1 e2 => ?_⟩, ?_⟩
        · cases l with
          | succ l => simp at e1
          | zero => cases k with
            | succ k => simp at e2
            | zero => rfl
        · cases l with
          | succ l => simp at e1
          | zero =>
            simp at e1 e2
            subst e1; subst e2
            exact ⟨us, i2, i3.low0 l1⟩
        · rw [ef]
          intro uv ι' H' g hr' ru
          have hnp : ∀ (b : Addr) (o : HO), b ≠ p → H b = some o → H' b = some o := fun b o hb e => g.frm b o (by simpa using hb) e
          obtain ⟨p2, ws, k1, k2, k3⟩ := getM_at hr' em
          have : ι'[0]? = some p := pre_get g.pre rfl
          rw [this] at k1
          cases k1
          have pm : p ∈ ι := List.mem_of_getElem? i1
          have g2 : Grow K ι H ι H' := ⟨List.prefix_refl _, g.tup, fun a o hn e => hnp a o (fun z => hn (by rw [z]; exact pm)) e, fun _ h => .inl h⟩
          obtain ⟨hl, _⟩ := List.getElem?_eq_some_iff.mp i1
          have hlm : l < μ.length := by rw [← hr.len]; exact hl
          refine q uv ι H' g2 ⟨fun k m a ys zs e1 e2 e3 e4 => ?_, by rw [List.length_set, hr.len], fun k ob a e1 e2 => ?_⟩ (ru.low0 l3)
          · by_cases hk : l = k <;> by_cases hm : l = m
            · rw [← hk, ← hm]
            · subst hk
              rw [List.getElem?_set_ne hm] at e2
              exact hr.nd _ _ a u zs hz e2 e3 e4
            · subst hm
              rw [List.getElem?_set_ne hk] at e1
              exact hr.nd _ _ a ys u e1 hz e3 e4
            · rw [List.getElem?_set_ne hk] at e1
              rw [List.getElem?_set_ne hm] at e2
              exact hr.nd _ _ a ys zs e1 e2 e3 e4
          · by_cases hk : l = k
            · subst hk
              rw [i1] at e2; cases e2
              rw [List.getElem?_set_self hlm] at e1
              cases e1
              exact ⟨ws, k2, k3.low0 l4⟩
            · rw [List.getElem?_set_ne hk] at e1
              have q := hr.obj k ob a e1 e2
              cases ob with
              | lst ys =>
                have ne : a ≠ p := fun z => by
                  subst z
                  exact hk (hr.nd _ _ a u ys hz e1 i1 e2)
                obtain ⟨ws, e, r⟩ := q
                exact ⟨ws, hnp _ _ ne e, r.grow g2⟩
              | ro ys =>
                obtain ⟨ws, e, r⟩ := q
                refine ⟨ws, ?_, r.grow g2⟩
                rcases e with ⟨o, e⟩ | e
                · exact .inl ⟨o, hnp _ _ (ne_of e i2 (by intro z; cases z)) e⟩
                · exact .inr e
  · exact q.elim
end
end GB
set_option Elab.async false
set_option linter.all false
set_option maxRecDepth 100000
set_option maxHeartbeats 1000000
namespace GB
open PySem PySem.Spec PyProof.Rows L2
/-! ### the combinators, one step each (for simp) -/
section
variable {ρ : Rho} {μ : Mu} {a b c : Dn PV} {l r : Dn (List PV)} {s t : Dn Bool} {d e : DS} {i j k n : Nat} {v w : PV} {f g : PV → PV → Mu → R PV}
@[simp] theorem dC_ : dC v ρ μ = .ok v μ := ndf rfl
@[simp] theorem dNil_ : dNil ρ μ = .ok [] μ := ndf rfl
@[simp] theorem dCons_ : dCons a r ρ μ = (a ρ μ).bind fun x μ => (r ρ μ).bind fun xs μ => .ok (x :: xs) μ := ndf rfl
@[simp] theorem dTup_ : dTup l ρ μ = (l ρ μ).bind fun xs μ => if xs.length ≤ 16777216 then .ok (.tup xs) μ else .bad := ndf rfl
@[simp] theorem dLst_ : dLst l ρ μ = (l ρ μ).bind fun xs μ => if xs.length ≤ 16777216 then .ok (.ref μ.length) (μ ++ [.lst xs]) else .bad := ndf rfl
@[simp] theorem dOp_ : dOp f a b ρ μ = (a ρ μ).bind fun x μ => (b ρ μ).bind fun y μ => f x y μ := ndf rfl
@[simp] theorem dUn_ {f : PV → Mu → R PV} : dUn f a ρ μ = (a ρ μ).bind fun x μ => f x μ := ndf rfl
@[simp] theorem dApp_ {f : List PV → Mu → R PV} : dApp f l ρ μ = (l ρ μ).bind fun xs μ => f xs μ := ndf rfl
def unB (v : PV) (μ : Mu) : R Bool := match v with
  | .bl k => .ok k μ
  | _ => .bad
@[simp] theorem unB_ {b : Bool} : unB (.bl b) μ = .ok b μ := ndf rfl
@[simp] theorem asB_ : asB a ρ μ = (a ρ μ).bind unB := ndf rfl
def unT (v : PV) (μ : Mu) : R Bool := match fTru v μ with
  | some k => .ok k μ
  | none => .bad
@[simp] theorem unT_bl {b : Bool} : unT (.bl b) μ = .ok b μ := ndf rfl
@[simp] theorem dTru_ : dTru a ρ μ = (a ρ μ).bind unT := ndf rfl
@[simp] theorem fTru_bl {b : Bool} : fTru (.bl b) μ = some b := ndf rfl
def byT (o : Option Bool) (x y : R PV) : R PV := match o with
  | some true => x
  | some false => y
  | none => .bad
@[simp] theorem byT_t {x y : R PV} : byT (some true) x y = x := ndf rfl
@[simp] theorem byT_f {x y : R PV} : byT (some false) x y = y := ndf rfl
@[simp] theorem byT_b {b : Bool} {x y : R PV} : byT (some b) x y = if b = true then x else y := by cases b <;> rfl
def notT (o : Option Bool) (μ : Mu) : R PV := match o with
  | some k => .ok (.bl (!k)) μ
  | none => .bad
@[simp] theorem notT_ {b : Bool} : notT (some b) μ = .ok (.bl (!b)) μ := ndf rfl
@[simp] theorem dAnd_ : dAnd a b ρ μ = (a ρ μ).bind fun x μ => byT (fTru x μ) (b ρ μ) (.ok x μ) := ndf rfl
@[simp] theorem dOr_ : dOr a b ρ μ = (a ρ μ).bind fun x μ => byT (fTru x μ) (.ok x μ) (b ρ μ) := ndf rfl
@[simp] theorem dNot_ : dNot a ρ μ = (a ρ μ).bind fun x μ => notT (fTru x μ) μ := ndf rfl
@[simp] theorem fTru_int {m : Int} : fTru (.int m) μ = some (m != 0) := ndf rfl
@[simp] theorem fTru_non : fTru .non μ = some false := ndf rfl
@[simp] theorem fTru_tup {xs : List PV} : fTru (.tup xs) μ = some (!xs.isEmpty) := ndf rfl
theorem fTru_ref {xs : List PV} (h : getL μ i = some xs) : fTru (.ref i) μ = some (!xs.isEmpty) := by unfold fTru; simp only [h, Option.map_some]
@[simp] theorem dAndB_ : dAndB s t ρ μ = (s ρ μ).bind fun k μ => if k = true then t ρ μ else .ok false μ := ndf rfl
@[simp] theorem dOrB_ : dOrB s t ρ μ = (s ρ μ).bind fun k μ => if k = true then .ok true μ else t ρ μ := ndf rfl
@[simp] theorem dNotB_ : dNotB s ρ μ = (s ρ μ).bind fun k μ => .ok (!k) μ := ndf rfl
@[simp] theorem dIf_ : dIf s a b ρ μ = (s ρ μ).bind fun k μ => if k = true then a ρ μ else b ρ μ := ndf rfl
@[simp] theorem dYes_ : dYes ρ μ = .ok true μ := ndf rfl
@[simp] theorem dNoPart_ : dNoPart ρ μ = .ok none μ := ndf rfl
def unI (v : PV) (μ : Mu) : R (Option Int) := match v with
  | .int i => .ok (some i) μ
  | _ => .bad
@[simp] theorem unI_ {i : Int} : unI (.int i) μ = .ok (some i) μ := ndf rfl
@[simp] theorem dPart_ : dPart a ρ μ = (a ρ μ).bind unI := ndf rfl
@[simp] theorem dSl_ {lo hi : DO} : dSl a lo hi ρ μ = (a ρ μ).bind fun x μ => (lo ρ μ).bind fun l μ => (hi ρ μ).bind fun h μ => fSl x l h μ := ndf rfl
@[simp] theorem dCall_ {f : DF} : dCall n f l ρ μ = (l ρ μ).bind fun as μ => if as.length = n then (f as μ).nex else .bad := ndf rfl
def methL (x : PV) (μ : Mu) (r : R PV) : R PV := match x with
  | .ref k => match getL μ k with
    | some _ => r
    | none => .bad
  | _ => .bad
theorem methL_ok {xs : List PV} {r : R PV} (h : getL μ i = some xs) : methL (.ref i) μ r = r := by unfold methL; simp only [h]
@[simp] theorem dMeth_ {f : PV → List PV → Mu → R PV} : dMeth f a l ρ μ = (a ρ μ).bind fun x μ => methL x μ ((l ρ μ).bind fun ys μ => f x ys μ) := by
  unfold dMeth
  cases a ρ μ with
  | ok o μ => cases o <;> rfl
  | exc _ _ => rfl
  | bad => rfl
@[simp] theorem dMeth0_ {f : PV → List PV → Mu → R PV} : dMeth0 f a ρ μ = (a ρ μ).bind fun x μ => methL x μ (f x [] μ) := by
  unfold dMeth0
  cases a ρ μ with
  | ok o μ => cases o <;> rfl
  | exc _ _ => rfl
  | bad => rfl
@[simp] theorem dSkip_ : dSkip ρ μ = .nx ρ μ := ndf rfl
def O.seq (o : O) (f : Rho → Mu → O) : O := match o with
  | .nx ρ μ => f ρ μ
  | o => o
@[simp] theorem seq_nx {f : Rho → Mu → O} : (O.nx ρ μ).seq f = f ρ μ := ndf rfl
@[simp] theorem seq_rt {f : Rho → Mu → O} : (O.rt v μ).seq f = .rt v μ := ndf rfl
@[simp] theorem seq_bk {f : Rho → Mu → O} : (O.bk ρ μ).seq f = .bk ρ μ := ndf rfl
@[simp] theorem seq_ct {f : Rho → Mu → O} : (O.ct ρ μ).seq f = .ct ρ μ := ndf rfl
@[simp] theorem seq_bad {f : Rho → Mu → O} : O.bad.seq f = .bad := ndf rfl
@[simp] theorem dSeq_ : dSeq d e ρ μ = (d ρ μ).seq e := ndf rfl
def O.toR (o : O) : R PV := match o with
  | .rt v μ => .ok v μ
  | .nx _ μ => .ok .non μ
  | _ => .bad
@[simp] theorem toR_rt : (O.rt v μ).toR = .ok v μ := ndf rfl
@[simp] theorem toR_nx : (O.nx ρ μ).toR = .ok .non μ := ndf rfl
theorem runF_ {as : List PV} : runF n d as μ = (d (as.map some ++ List.replicate (n - as.length) none) μ).toR := rfl
@[simp] theorem dDrop_ : dDrop a ρ μ = (a ρ μ).thn ρ fun _ μ => .nx ρ μ := ndf rfl
@[simp] theorem dRet_ : dRet a ρ μ = (a ρ μ).thn ρ fun v μ => .rt v μ := ndf rfl
@[simp] theorem dRetN_ : dRetN ρ μ = .rt .non μ := ndf rfl
@[simp] theorem dIfS_ : dIfS s d e ρ μ = (s ρ μ).thn ρ fun k μ => if k = true then d ρ μ else e ρ μ := ndf rfl
@[simp] theorem gN_ : gN i v ρ μ = .ok (ρ.set i (some v)) μ := ndf rfl
@[simp] theorem gsN_ : gsN [] ρ μ = .ok ρ μ := ndf rfl
@[simp] theorem gsC_ {g : DG} {gs : DGs} {vs : List PV} : gsC g gs (v :: vs) ρ μ = (g v ρ μ).bind fun ρ μ => gs vs ρ μ := ndf rfl
@[simp] theorem gT_ {gs : DGs} {vs : List PV} : gT n gs (.tup vs) ρ μ = if vs.length = n then gs vs ρ μ else .bad := ndf rfl
def aft (r : R Rho) : O := match r with
  | .ok ρ μ => .nx ρ μ
  | _ => .bad
@[simp] theorem aft_ : aft (.ok ρ μ) = .nx ρ μ := ndf rfl
@[simp] theorem dAsg_ {g : DG} : dAsg a g ρ μ = (a ρ μ).thn ρ fun v μ => aft (g v ρ μ) := by
  unfold dAsg
  congr
def subSet (o i v : PV) (ρ : Rho) (μ : Mu) : R Rho := match o, i with
  | .ref l, .int k => match getM μ l with
    | some xs => match ixN xs.length k with
      | some j => .ok ρ (μ.set l (.lst (xs.set j v)))
      | none => .bad
    | none => .bad
  | _, _ => .bad
@[simp] theorem gSubL_ : gSubL a b v ρ μ = (a ρ μ).bind fun o μ => (b ρ μ).bind fun i μ => subSet o i v ρ μ := ndf rfl
theorem subSet_ok {l j : Nat} {k : Int} {xs : List PV} (h : getM μ l = some xs) (h2 : ixN xs.length k = some j) : subSet (.ref l) (.int k) v ρ μ = .ok ρ (μ.set l (.lst (xs.set j v))) := by unfold subSet; simp only [h, h2]
def par2 (i j : Nat) (vs : List PV) (ρ : Rho) (μ : Mu) : O := match vs with
  | [v, w] => .nx ((ρ.set i (some v)).set j (some w)) μ
  | _ => .bad
@[simp] theorem par2_ : par2 i j [v, w] ρ μ = .nx ((ρ.set i (some v)).set j (some w)) μ := ndf rfl
@[simp] theorem dPar_ : dPar i j l ρ μ = (l ρ μ).thn ρ fun vs μ => par2 i j vs ρ μ := ndf rfl
def par3 (i j k : Nat) (vs : List PV) (ρ : Rho) (μ : Mu) : O := match vs with
  | [v, w, z] => .nx (((ρ.set i (some v)).set j (some w)).set k (some z)) μ
  | _ => .bad
@[simp] theorem par3_ {z : PV} : par3 i j k [v, w, z] ρ μ = .nx (((ρ.set i (some v)).set j (some w)).set k (some z)) μ := ndf rfl
@[simp] theorem dPar3_ : dPar3 i j k l ρ μ = (l ρ μ).thn ρ fun vs μ => par3 i j k vs ρ μ := ndf rfl
@[simp] theorem dFor_ {di : Rho → Mu → R DI} {g : DG} : dFor di g d ρ μ = (di ρ μ).thn ρ fun j μ => dForN j g d lid 0 ρ μ := ndf rfl
@[simp] theorem dWhile_ : dWhile s d ρ μ = dWhileN s d lid ρ μ := ndf rfl
@[simp] theorem dLc_ {di : Rho → Mu → R DI} {g : PV → Rho → Option Rho} {vs : List Nat} : dLc di g s a vs ρ μ = (di ρ μ).bind fun j μ => dLcN j g s a (wipeP ρ vs) μ.length lid 0 (μ ++ [.lst []]) := ndf rfl
@[simp] theorem diSeq_ : diSeq a ρ μ = (a ρ μ).bind fun x μ => jSeq x μ := ndf rfl
@[simp] theorem jSeq_tup {xs : List PV} : jSeq (.tup xs) μ = .ok (jTup xs) μ := ndf rfl
theorem jSeq_ref {xs : List PV} (h : getL μ i = some xs) : jSeq (.ref i) μ = .ok (jLst i) μ := by unfold jSeq; simp only [h]
def rng1 (xs : List PV) (μ : Mu) : R DI := match xs with
  | [.int j] => if decide (-4611686018427387904 ≤ j) && decide (j < 4611686018427387904) then .ok (jRng 0 j.toNat) μ else .bad
  | _ => .bad
def rng2 (xs : List PV) (μ : Mu) : R DI := match xs with
  | [.int i, .int j] => if decide (-4611686018427387904 ≤ i) && decide (i < 4611686018427387904) && decide (-4611686018427387904 ≤ j) && decide (j < 4611686018427387904) then .ok (jRng i (j - i).toNat) μ else .bad
  | _ => .bad
@[simp] theorem diRng1_ : diRng1 l ρ μ = (l ρ μ).bind rng1 := ndf rfl
@[simp] theorem diRng2_ : diRng2 l ρ μ = (l ρ μ).bind rng2 := ndf rfl
theorem rng1_ok {j : Int} (h0 : -4611686018427387904 ≤ j) (h1 : j < 4611686018427387904) : rng1 [.int j] μ = .ok (jRng 0 j.toNat) μ := by
  unfold rng1
  simp only [decide_eq_true h0, decide_eq_true h1, Bool.and_true, if_true]
theorem rng2_ok {i j : Int} (h0 : -4611686018427387904 ≤ i) (h1 : i < 4611686018427387904) (h2 : -4611686018427387904 ≤ j) (h3 : j < 4611686018427387904) : rng2 [.int i, .int j] μ = .ok (jRng i (j - i).toNat) μ := by
  unfold rng2
  simp only [decide_eq_true h0, decide_eq_true h1, decide_eq_true h2, decide_eq_true h3, Bool.and_true, if_true]
def enumL (xs : List PV) (μ : Mu) : R DI := match xs with
  | [.ref l] => match getL μ l with
    | some _ => .ok (jEnum (jLst l)) μ
    | none => .bad
  | _ => .bad
@[simp] theorem diEnumL_ : diEnumL l ρ μ = (l ρ μ).bind enumL := ndf rfl
theorem enumL_ok {xs : List PV} (h : getL μ i = some xs) : enumL [.ref i] μ = .ok (jEnum (jLst i)) μ := by unfold enumL; simp only [h]
def zipL (xs : List PV) (μ : Mu) : R DI := match xs with
  | [.tup x, .tup y] => .ok (jZip (jTup x) (jTup y)) μ
  | [.ref l, .ref m] => match getL μ l, getL μ m with
    | some _, some _ => .ok (jZip (jLst l) (jLst m)) μ
    | _, _ => .bad
  | _ => .bad
@[simp] theorem diZip_ : diZip l ρ μ = (l ρ μ).bind zipL := ndf rfl
@[simp] theorem zipL_tup {x y : List PV} : zipL [.tup x, .tup y] μ = .ok (jZip (jTup x) (jTup y)) μ := ndf rfl
theorem zipL_ok {xs ys : List PV} (h : getL μ i = some xs) (h2 : getL μ j = some ys) : zipL [.ref i, .ref j] μ = .ok (jZip (jLst i) (jLst j)) μ := by unfold zipL; simp only [h, h2]
end
/-! ### values -/
section
variable {μ : Mu} {i j : Int} {xs ys : List PV} {l : Nat}
@[simp] theorem fAdd_int : fAdd (.int i) (.int j) μ = .ok (.int (i + j)) μ := ndf rfl
@[simp] theorem fSub_int : fSub (.int i) (.int j) μ = .ok (.int (i - j)) μ := ndf rfl
@[simp] theorem fNeg_int : fNeg (.int i) μ = .ok (.int (-i)) μ := ndf rfl
@[simp] theorem fCmp_int {p : Int → Int → Bool} : fCmp p (.int i) (.int j) μ = .ok (.bl (p i j)) μ := ndf rfl
@[simp] theorem fEq_int : fEq (.int i) (.int j) μ = .ok (.bl (decide (i = j))) μ := ndf rfl
@[simp] theorem fNe_int : fNe (.int i) (.int j) μ = .ok (.bl (!decide (i = j))) μ := ndf rfl
@[simp] theorem fEq_bl {i j : Bool} : fEq (.bl i) (.bl j) μ = .ok (.bl (i == j)) μ := ndf rfl
@[simp] theorem fNe_bl {i j : Bool} : fNe (.bl i) (.bl j) μ = .ok (.bl (!(i == j))) μ := ndf rfl
@[simp] theorem fAbs_int : fAbs [.int i] μ = .ok (.int (if i < 0 then -i else i)) μ := ndf rfl
@[simp] theorem fInt_int : fInt [.int i] μ = .ok (.int i) μ := ndf rfl
@[simp] theorem fInt_bl {b : Bool} : fInt [.bl b] μ = .ok (.int (if b then 1 else 0)) μ := ndf rfl
@[simp] theorem fMax_two : fMax [.int i, .int j] μ = .ok (.int (if j > i then j else i)) μ := ndf rfl
@[simp] theorem fMin_two : fMin [.int i, .int j] μ = .ok (.int (if j < i then j else i)) μ := ndf rfl
@[simp] theorem fLen_tup : fLen [.tup xs] μ = .ok (.int xs.length) μ := ndf rfl
theorem fLen_ref (h : getL μ l = some xs) : fLen [.ref l] μ = .ok (.int xs.length) μ := by unfold fLen; simp only [h]
@[simp] theorem fTuple_tup : fTuple [.tup xs] μ = .ok (.tup xs) μ := ndf rfl
theorem fTuple_ref (h : getL μ l = some xs) : fTuple [.ref l] μ = .ok (.tup xs) μ := by unfold fTuple; simp only [h]
@[simp] theorem fList_tup : fList [.tup xs] μ = .ok (.ref μ.length) (μ ++ [.lst xs]) := ndf rfl
theorem fList_ref (h : getL μ l = some xs) : fList [.ref l] μ = .ok (.ref μ.length) (μ ++ [.lst xs]) := by unfold fList; simp only [h]
theorem fSum_tup {ns : List Int} (h : allI xs = some ns) : fSum [.tup xs] μ = .ok (.int ns.sum) μ := by unfold fSum; simp only [h]
@[simp] theorem fSum_two {a b : Int} : fSum [.tup [.int a, .int b]] μ = .ok (.int (a + b)) μ := by
  rw [fSum_tup (ns := [a, b]) rfl]; simp
theorem fIx_tup {v : PV} (h : atI xs i = some v) : fIx (.tup xs) (.int i) μ = .ok v μ := by unfold fIx; simp only [h]
theorem fIx_ref {v : PV} (h : getL μ l = some xs) (h2 : atI xs i = some v) : fIx (.ref l) (.int i) μ = .ok v μ := by unfold fIx; simp only [h, Option.bind_some, h2]
theorem mulOk_l (h : i.natAbs < 18446744073709551616) : mulOk i j = true := by
  unfold mulOk
  rw [show Nat.blt i.natAbs 18446744073709551616 = true from Nat.blt_eq.mpr h, Bool.true_or, Bool.true_or]
theorem mulOk_r (h : j.natAbs < 18446744073709551616) : mulOk i j = true := by
  unfold mulOk
  rw [show Nat.blt j.natAbs 18446744073709551616 = true from Nat.blt_eq.mpr h, Bool.or_true, Bool.true_or]
theorem log2_lt {n k : Nat} (h : n < 2 ^ k) (hk : 0 < k) : n.log2 < k := by
  by_cases h0 : n = 0
  · subst h0; exact hk
  · exact (Nat.log2_lt h0).mpr h
theorem mulOk_w {a b : Nat} (h : i.natAbs < 2 ^ a) (h2 : j.natAbs < 2 ^ b) (ha : 0 < a) (hb : 0 < b) (hab : a + b ≤ 134000000) : mulOk i j = true := by
  unfold mulOk
  have h1 := log2_lt h ha
  have h3 := log2_lt h2 hb
  rw [show Nat.blt (i.natAbs.log2 + j.natAbs.log2) 134000000 = true from Nat.blt_eq.mpr (by omega), Bool.or_true]
theorem fMul_ok (h : mulOk i j = true) : fMulI (.int i) (.int j) μ = .ok (.int (i * j)) μ := by unfold fMulI; simp only [h, if_true]
theorem fMul_l (h : i.natAbs < 18446744073709551616) : fMulI (.int i) (.int j) μ = .ok (.int (i * j)) μ := fMul_ok (mulOk_l h)
theorem fMul_r (h : j.natAbs < 18446744073709551616) : fMulI (.int i) (.int j) μ = .ok (.int (i * j)) μ := fMul_ok (mulOk_r h)
theorem fDiv_w {k : Nat} (h : 0 < j) (h2 : j.natAbs < 2 ^ k) (hk : 0 < k) (h9 : k ≤ 9000) : fDiv (.int i) (.int j) μ = .ok (.int (i / j)) μ := by
  unfold fDiv
  have := log2_lt h2 hk
  simp only [decide_eq_true h, show Nat.blt j.natAbs.log2 9000 = true from Nat.blt_eq.mpr (by omega), Bool.and_true, if_true]
theorem fDiv_ok (h : 0 < j) (h2 : j.natAbs < 18446744073709551616) : fDiv (.int i) (.int j) μ = .ok (.int (i / j)) μ := fDiv_w (k := 64) h h2 (by decide) (by decide)
theorem fMod_ok (h : 0 < j) : fMod (.int i) (.int j) μ = .ok (.int (i % j)) μ := by unfold fMod; simp only [h, if_true]
theorem getL_of_M (h : getM μ l = some xs) : getL μ l = some xs := by
  unfold getL; rw [getM_of h]
@[simp] theorem atI_0 {α : Type} {x : α} {xs : List α} : atI (x :: xs) 0 = some x := by simp [atI, ixN, List.length_cons]
theorem atI_k {α : Type} {xs : List α} {k : Nat} {v : α} (h : xs[k]? = some v) : atI xs (k : Int) = some v := atI_nat h
@[simp] theorem fIsi_int : fIsi "int" (.int i) μ = .ok (.bl true) μ := ndf rfl
@[simp] theorem fIsi_intb : fIsi "bool" (.int i) μ = .ok (.bl false) μ := ndf rfl
@[simp] theorem isN_int : fIsN (.int i) μ = .ok (.bl false) μ := ndf rfl
@[simp] theorem isN_non : fIsN .non μ = .ok (.bl true) μ := ndf rfl
@[simp] theorem notN_int : fNotN (.int i) μ = .ok (.bl true) μ := ndf rfl
@[simp] theorem notN_non : fNotN .non μ = .ok (.bl false) μ := ndf rfl
end
section
variable {ρ : Rho} {μ : Mu} {x y z w : Option PV} {i : Nat} {v : PV}
@[simp] theorem dVar_0 : dVar 0 (some v :: ρ) μ = .ok v μ := ndf rfl
@[simp] theorem dVar_1 : dVar 1 (x :: some v :: ρ) μ = .ok v μ := ndf rfl
@[simp] theorem dVar_2 : dVar 2 (x :: y :: some v :: ρ) μ = .ok v μ := ndf rfl
@[simp] theorem dVar_3 : dVar 3 (x :: y :: z :: some v :: ρ) μ = .ok v μ := ndf rfl
@[simp] theorem dVar_4 : dVar 4 (x :: y :: z :: w :: some v :: ρ) μ = .ok v μ := ndf rfl
@[simp] theorem dVar_5 {u : Option PV} : dVar 5 (x :: y :: z :: w :: u :: some v :: ρ) μ = .ok v μ := ndf rfl
@[simp] theorem dVar_6 {u u2 : Option PV} : dVar 6 (x :: y :: z :: w :: u :: u2 :: some v :: ρ) μ = .ok v μ := ndf rfl
@[simp] theorem dVar_7 {u u2 u3 : Option PV} : dVar 7 (x :: y :: z :: w :: u :: u2 :: u3 :: some v :: ρ) μ = .ok v μ := ndf rfl
@[simp] theorem dVar_S {n : Nat} : dVar (n + 5) (x :: y :: z :: w :: v' :: ρ) μ = dVar n ρ μ := by
  unfold dVar
  simp
end
end GB
set_option Elab.async false
set_option linter.all false
set_option maxRecDepth 100000
set_option maxHeartbeats 1000000
namespace GB
open PySem PySem.Spec PyProof.Rows L2
/-! ### loops by invariants, over the plain functions -/
/-- what a turn's end leads to -/
def turnTo (N : Rho → Mu → Prop) (Q : O → Prop) : O → Prop
  | .nx ρ μ => N ρ μ
  | .ct ρ μ => N ρ μ
  | .bk ρ μ => Q (.nx ρ μ)
  | o => Q o
@[simp] theorem turnTo_nx {N : Rho → Mu → Prop} {Q : O → Prop} {ρ : Rho} {μ : Mu} : turnTo N Q (.nx ρ μ) = N ρ μ := ndf rfl
@[simp] theorem turnTo_ct {N : Rho → Mu → Prop} {Q : O → Prop} {ρ : Rho} {μ : Mu} : turnTo N Q (.ct ρ μ) = N ρ μ := ndf rfl
@[simp] theorem turnTo_bk {N : Rho → Mu → Prop} {Q : O → Prop} {ρ : Rho} {μ : Mu} : turnTo N Q (.bk ρ μ) = Q (.nx ρ μ) := ndf rfl
@[simp] theorem turnTo_rt {N : Rho → Mu → Prop} {Q : O → Prop} {v : PV} {μ : Mu} : turnTo N Q (.rt v μ) = Q (.rt v μ) := ndf rfl
theorem forN_gen {j : DI} {g : DG} {b : DS} {Inv : Nat → Rho → Mu → Prop} {Q : O → Prop} {N : Nat} (hle : ∀ i ρ μ, Inv i ρ μ → i ≤ N)
    (step : ∀ i ρ μ, Inv i ρ μ → (j μ i = some none ∧ Q (.nx ρ μ)) ∨ (i < N ∧ ∃ x ρ1 μ1, j μ i = some (some x) ∧ g x ρ μ = .ok ρ1 μ1 ∧ turnTo (Inv (i + 1)) Q (b ρ1 μ1))) :
    ∀ (f i : Nat) (ρ : Rho) (μ : Mu), N < f + i → Inv i ρ μ → Q (dForN j g b f i ρ μ)
  | 0, i, ρ, μ, hf, h => by have := hle i ρ μ h; omega
  | f + 1, i, ρ, μ, hf, h => by
    unfold dForN
    rcases step i ρ μ h with ⟨h1, h2⟩ | ⟨h1, x, ρ1, μ1, h2, h3, h4⟩
    · simp only [h1]; exact h2
    · simp only [h2, h3]
      cases e : b ρ1 μ1 with
      | nx ρ2 μ2 => rw [e] at h4; exact forN_gen hle step f (i + 1) ρ2 μ2 (by omega) h4
      | ct ρ2 μ2 => rw [e] at h4; exact forN_gen hle step f (i + 1) ρ2 μ2 (by omega) h4
      | bk ρ2 μ2 => rw [e] at h4; exact h4
      | rt v μ2 => rw [e] at h4; exact h4
      | exc e2 ρ2 μ2 => rw [e] at h4; exact h4
      | bad => rw [e] at h4; exact h4
/-- over a range -/
theorem for_rng {lo : Int} {n : Nat} {g : DG} {b : DS} {Inv : Nat → Rho → Mu → Prop} {Q : O → Prop} {ρ : Rho} {μ : Mu} (hn : n < lid) (h0 : Inv 0 ρ μ) (hd : ∀ ρ μ, Inv n ρ μ → Q (.nx ρ μ))
    (step : ∀ i ρ μ, i < n → Inv i ρ μ → ∃ ρ1 μ1, g (.int (lo + i)) ρ μ = .ok ρ1 μ1 ∧ turnTo (Inv (i + 1)) Q (b ρ1 μ1)) : Q (dForN (jRng lo n) g b lid 0 ρ μ) := by
  refine forN_gen (Inv := fun i ρ μ => i ≤ n ∧ Inv i ρ μ) (N := n) (fun i ρ μ h => h.1) (fun i ρ μ h => ?_) lid 0 ρ μ (by omega) ⟨Nat.zero_le _, h0⟩
  obtain ⟨hi, h⟩ := h
  by_cases hlt : i < n
  · obtain ⟨ρ1, μ1, e1, e2⟩ := step i ρ μ hlt h
    refine .inr ⟨hlt, _, ρ1, μ1, by unfold jRng; rw [if_pos hlt], e1, ?_⟩
    cases e : b ρ1 μ1 with
    | nx ρ2 μ2 => rw [e] at e2; exact ⟨hlt, e2⟩
    | ct ρ2 μ2 => rw [e] at e2; exact ⟨hlt, e2⟩
    | bk ρ2 μ2 => rw [e] at e2; exact e2
    | rt v μ2 => rw [e] at e2; exact e2
    | exc e2' ρ2 μ2 => rw [e] at e2; exact e2
    | bad => rw [e] at e2; exact e2
  · have : i = n := by omega
    subst this
    exact .inl ⟨by unfold jRng; rw [if_neg hlt], hd ρ μ h⟩
/-- over items that stand: j tells items[i] wherever Inv holds -/
theorem for_items {j : DI} {items : List PV} {g : DG} {b : DS} {Inv : Nat → Rho → Mu → Prop} {Q : O → Prop} {ρ : Rho} {μ : Mu} (hj : ∀ i ρ μ, Inv i ρ μ → j μ i = some (items[i]?)) (hn : items.length < lid) (h0 : Inv 0 ρ μ) (hd : ∀ ρ μ, Inv items.length ρ μ → Q (.nx ρ μ))
    (step : ∀ i x ρ μ, items[i]? = some x → Inv i ρ μ → ∃ ρ1 μ1, g x ρ μ = .ok ρ1 μ1 ∧ turnTo (Inv (i + 1)) Q (b ρ1 μ1)) : Q (dForN j g b lid 0 ρ μ) := by
  refine forN_gen (Inv := fun i ρ μ => i ≤ items.length ∧ Inv i ρ μ) (N := items.length) (fun i ρ μ h => h.1) (fun i ρ μ h => ?_) lid 0 ρ μ (by omega) ⟨Nat.zero_le _, h0⟩
  obtain ⟨hi, h⟩ := h
  by_cases hlt : i < items.length
  · have hx := List.getElem?_eq_getElem hlt
    obtain ⟨ρ1, μ1, e1, e2⟩ := step i _ ρ μ hx h
    refine .inr ⟨hlt, _, ρ1, μ1, by rw [hj i ρ μ h, hx], e1, ?_⟩
    cases e : b ρ1 μ1 with
    | nx ρ2 μ2 => rw [e] at e2; exact ⟨hlt, e2⟩
    | ct ρ2 μ2 => rw [e] at e2; exact ⟨hlt, e2⟩
    | bk ρ2 μ2 => rw [e] at e2; exact e2
    | rt v μ2 => rw [e] at e2; exact e2
    | exc e2' ρ2 μ2 => rw [e] at e2; exact e2
    | bad => rw [e] at e2; exact e2
  · have : i = items.length := by omega
    subst this
    exact .inl ⟨by rw [hj _ ρ μ h, List.getElem?_eq_none (Nat.le_refl _)], hd ρ μ h⟩
/-- while, by a measure -/
theorem whileN_gen {t : Dn Bool} {b : DS} {Inv : Rho → Mu → Prop} {m : Rho → Mu → Nat} {Q : O → Prop}
    (step : ∀ ρ μ, Inv ρ μ → ∃ k μ1, t ρ μ = .ok k μ1 ∧ if k = true then turnTo (fun ρ2 μ2 => Inv ρ2 μ2 ∧ m ρ2 μ2 < m ρ μ) Q (b ρ μ1) else Q (.nx ρ μ1)) :
    ∀ (f : Nat) (ρ : Rho) (μ : Mu), m ρ μ < f → Inv ρ μ → Q (dWhileN t b f ρ μ)
  | 0, ρ, μ, hf, h => by omega
  | f + 1, ρ, μ, hf, h => by
    unfold dWhileN
    obtain ⟨k, μ1, e1, e2⟩ := step ρ μ h
    rw [e1, R.thn_ok]
    cases k with
    | false => rw [if_neg Bool.false_ne_true] at e2 ⊢; exact e2
    | true =>
      rw [if_pos rfl] at e2 ⊢
      cases e : b ρ μ1 with
      | nx ρ2 μ2 => rw [e] at e2; exact whileN_gen step f ρ2 μ2 (by have := e2.2; omega) e2.1
      | ct ρ2 μ2 => rw [e] at e2; exact whileN_gen step f ρ2 μ2 (by have := e2.2; omega) e2.1
      | bk ρ2 μ2 => rw [e] at e2; exact e2
      | rt v μ2 => rw [e] at e2; exact e2
      | exc e2' ρ2 μ2 => rw [e] at e2; exact e2
      | bad => rw [e] at e2; exact e2
theorem while_gen {t : Dn Bool} {b : DS} {Inv : Rho → Mu → Prop} (m : Rho → Mu → Nat) {Q : O → Prop} {ρ : Rho} {μ : Mu} (hm : m ρ μ < lid) (h0 : Inv ρ μ)
    (step : ∀ ρ μ, Inv ρ μ → ∃ k μ1, t ρ μ = .ok k μ1 ∧ if k = true then turnTo (fun ρ2 μ2 => Inv ρ2 μ2 ∧ m ρ2 μ2 < m ρ μ) Q (b ρ μ1) else Q (.nx ρ μ1)) : Q (dWhileN t b lid ρ μ) := whileN_gen step lid ρ μ hm h0
/-- a comprehension -/
theorem lcN_gen {j : DI} {g : PV → Rho → Option Rho} {tt : Dn Bool} {te : Dn PV} {ρ : Rho} {D : Nat} {Inv : Nat → List PV → Mu → Prop} {Q : R PV → Prop} {N : Nat} (hle : ∀ i acc μ, Inv i acc μ → i ≤ N)
    (step : ∀ i acc μ, Inv i acc μ → (j μ i = some none ∧ Q (.ok (.ref D) μ)) ∨ (i < N ∧ ∃ x ρ2 k μ2, j μ i = some (some x) ∧ g x ρ = some ρ2 ∧ tt ρ2 μ = .ok k μ2 ∧ if k = true then ∃ y μ3, te ρ2 μ2 = .ok y μ3 ∧ getM μ3 D = some acc ∧ acc.length < 16777216 ∧ Inv (i + 1) (acc ++ [y]) (μ3.set D (.lst (acc ++ [y]))) else Inv (i + 1) acc μ2)) :
    ∀ (f i : Nat) (acc : List PV) (μ : Mu), N < f + i → Inv i acc μ → Q (dLcN j g tt te ρ D f i μ)
  | 0, i, acc, μ, hf, h => by have := hle i acc μ h; omega
  | f + 1, i, acc, μ, hf, h => by
    unfold dLcN
    rcases step i acc μ h with ⟨h1, h2⟩ | ⟨h1, x, ρ2, k, μ2, h2, h3, h4, h5⟩
    · simp only [h1]; exact h2
    · simp only [h2, h3, h4]
      cases k with
      | false => rw [if_neg Bool.false_ne_true] at h5; exact lcN_gen hle step f (i + 1) acc μ2 (by omega) h5
      | true =>
        rw [if_pos rfl] at h5
        obtain ⟨y, μ3, e1, e2, e3, e4⟩ := h5
        simp only [e1, e2, e3, if_true]
        exact lcN_gen hle step f (i + 1) _ _ (by omega) e4
theorem getM_last {μ : Mu} {acc : List PV} : getM (μ ++ [.lst acc]) μ.length = some acc := by
  unfold getM; simp
theorem getL_last {μ : Mu} {acc : List PV} : getL (μ ++ [.lst acc]) μ.length = some acc := by
  unfold getL; simp
theorem getM_last' {μ : Mu} {acc : List PV} {l : Nat} (h : l = μ.length) : getM (μ ++ [.lst acc]) l = some acc := by rw [h]; exact getM_last
theorem getL_last' {μ : Mu} {acc : List PV} {l : Nat} (h : l = μ.length) : getL (μ ++ [.lst acc]) l = some acc := by rw [h]; exact getL_last
theorem set_last {μ : Mu} {acc acc' : List PV} : (μ ++ [Ob.lst acc]).set μ.length (.lst acc') = μ ++ [.lst acc'] := by
  rw [List.set_append_right _ _ (Nat.le_refl _)]; simp
theorem getL_app {μ ν : Mu} {l : Nat} {xs : List PV} (h : getL μ l = some xs) : getL (μ ++ ν) l = some xs := by
  unfold getL at h ⊢
  by_cases hl : l < μ.length
  · rw [List.getElem?_append_left hl]; exact h
  · rw [List.getElem?_eq_none (by omega)] at h; cases h
theorem getM_app {μ ν : Mu} {l : Nat} {xs : List PV} (h : getM μ l = some xs) : getM (μ ++ ν) l = some xs := by
  unfold getM at h ⊢
  by_cases hl : l < μ.length
  · rw [List.getElem?_append_left hl]; exact h
  · rw [List.getElem?_eq_none (by omega)] at h; cases h
theorem getM_lt {μ : Mu} {l : Nat} {xs : List PV} (h : getM μ l = some xs) : l < μ.length := (List.getElem?_eq_some_iff.mp (getM_of h)).1
theorem getL_lt {μ : Mu} {l : Nat} {xs : List PV} (h : getL μ l = some xs) : l < μ.length := by
  unfold getL at h
  by_cases hl : l < μ.length
  · exact hl
  · rw [List.getElem?_eq_none (by omega)] at h; cases h
/-- elements and tests that make nothing -/
theorem lc_pure {j : DI} {g : PV → Rho → Option Rho} {tt : Dn Bool} {te : Dn PV} {ρ : Rho} {items : List PV} (keep : PV → Bool) (val : PV → PV) {μ : Mu} (hj : ∀ acc i, j (μ ++ [.lst acc]) i = some (items[i]?)) (hn : items.length < 16777216)
    (step : ∀ (acc : List PV) (i : Nat) (x : PV), items[i]? = some x → ∃ ρ2, g x ρ = some ρ2 ∧ tt ρ2 (μ ++ [.lst acc]) = .ok (keep x) (μ ++ [.lst acc]) ∧ (keep x = true → te ρ2 (μ ++ [.lst acc]) = .ok (val x) (μ ++ [.lst acc]))) :
    dLcN j g tt te ρ μ.length lid 0 (μ ++ [.lst []]) = .ok (.ref μ.length) (μ ++ [.lst ((items.filter keep).map val)]) := by
  refine lcN_gen (Inv := fun i acc μ' => i ≤ items.length ∧ μ' = μ ++ [.lst acc] ∧ acc = ((items.take i).filter keep).map val) (Q := fun r => r = .ok (.ref μ.length) (μ ++ [.lst ((items.filter keep).map val)])) (N := items.length) (fun i acc μ' h => h.1) (fun i acc μ' h => ?_) lid 0 [] _ (by unfold lid; omega) ⟨Nat.zero_le _, rfl, by simp⟩
  obtain ⟨hi, rfl, ha⟩ := h
  by_cases hlt : i < items.length
  · have hx := List.getElem?_eq_getElem hlt
    obtain ⟨ρ2, e1, e2, e3⟩ := step acc i _ hx
    refine .inr ⟨hlt, _, ρ2, _, _, by rw [hj, hx], e1, e2, ?_⟩
    have ht : items.take (i + 1) = items.take i ++ [items[i]] := by rw [List.take_add_one, hx]; rfl
    have hl : acc.length ≤ i := by
      rw [ha, List.length_map]
      exact Nat.le_trans (List.length_filter_le _ _) (by rw [List.length_take]; omega)
    by_cases hk : keep items[i] = true
    · rw [if_pos hk]
      refine ⟨_, _, e3 hk, getM_last, by omega, hlt, set_last, ?_⟩
      rw [ht, List.filter_append, List.map_append, ← ha]
      simp [hk]
    · rw [if_neg hk]
      refine ⟨hlt, rfl, ?_⟩
      rw [ht, List.filter_append, List.map_append, ← ha]
      simp [hk]
  · have : i = items.length := by omega
    subst this
    refine .inl ⟨by rw [hj, List.getElem?_eq_none (Nat.le_refl _)], ?_⟩
    rw [ha, List.take_length]
theorem lc_map {j : DI} {g : PV → Rho → Option Rho} {te : Dn PV} {ρ : Rho} {items : List PV} (val : PV → PV) {μ : Mu} (hj : ∀ acc i, j (μ ++ [.lst acc]) i = some (items[i]?)) (hn : items.length < 16777216)
    (step : ∀ (acc : List PV) (i : Nat) (x : PV), items[i]? = some x → ∃ ρ2, g x ρ = some ρ2 ∧ te ρ2 (μ ++ [.lst acc]) = .ok (val x) (μ ++ [.lst acc])) :
    dLcN j g dYes te ρ μ.length lid 0 (μ ++ [.lst []]) = .ok (.ref μ.length) (μ ++ [.lst (items.map val)]) := by
  have := lc_pure (fun _ => true) val hj hn (tt := dYes) (te := te) (g := g) (ρ := ρ) fun acc i x hx => by
    obtain ⟨ρ2, e1, e2⟩ := step acc i x hx
    exact ⟨ρ2, e1, rfl, fun _ => e2⟩
  rw [List.filter_eq_self.mpr (fun _ _ => rfl)] at this
  exact this
theorem fAppend_ok {μ : Mu} {l : Nat} {xs : List PV} {y : PV} (h : getM μ l = some xs) (hl : xs.length < 16777216) : fAppend (.ref l) [y] μ = .ok .non (μ.set l (.lst (xs ++ [y]))) := by unfold fAppend; simp only [h, hl, if_true]
theorem getM_set {μ : Mu} {l : Nat} {u u' : List PV} (h : getM μ l = some u) : getM (μ.set l (.lst u')) l = some u' := by
  unfold getM; rw [List.getElem?_set_self (getM_lt h)]
theorem getL_set {μ : Mu} {l : Nat} {u u' : List PV} (h : getM μ l = some u) : getL (μ.set l (.lst u')) l = some u' := getL_of_M (getM_set h)
theorem getM_set_ne {μ : Mu} {l k : Nat} {o : Ob} (h : l ≠ k) : getM (μ.set l o) k = getM μ k := by
  unfold getM; rw [List.getElem?_set_ne h]
theorem getL_set_ne {μ : Mu} {l k : Nat} {o : Ob} (h : l ≠ k) : getL (μ.set l o) k = getL μ k := by
  unfold getL; rw [List.getElem?_set_ne h]
@[simp] theorem atI_1 {α : Type} {x y : α} {xs : List α} : atI (x :: y :: xs) 1 = some y := atI_nat (j := 1) rfl
@[simp] theorem atI_2 {α : Type} {x y z : α} {xs : List α} : atI (x :: y :: z :: xs) 2 = some z := atI_nat (j := 2) rfl
@[simp] theorem atI_3 {α : Type} {x y z w : α} {xs : List α} : atI (x :: y :: z :: w :: xs) 3 = some w := atI_nat (j := 3) rfl
@[simp] theorem atI_4 {α : Type} {x y z w w2 : α} {xs : List α} : atI (x :: y :: z :: w :: w2 :: xs) 4 = some w2 := atI_nat (j := 4) rfl
@[simp] theorem atI_m1 {α : Type} {xs : List α} {v : α} : atI (xs ++ [v]) (-1) = some v := atI_last xs v
theorem fIx_tup0 {μ : Mu} {x : PV} {xs : List PV} : fIx (.tup (x :: xs)) (.int 0) μ = .ok x μ := fIx_tup atI_0
theorem fIx_tup1 {μ : Mu} {x y : PV} {xs : List PV} : fIx (.tup (x :: y :: xs)) (.int 1) μ = .ok y μ := fIx_tup atI_1
theorem fIx_tup2 {μ : Mu} {x y z : PV} {xs : List PV} : fIx (.tup (x :: y :: z :: xs)) (.int 2) μ = .ok z μ := fIx_tup atI_2
theorem fPow_lit {i j : Int} {μ : Mu} (h : (decide (0 ≤ j) && decide (j ≤ 1000000) && Nat.blt i.natAbs 18446744073709551616) = true) : fPow (.int i) (.int j) μ = .ok (.int (i ^ j.toNat)) μ := by unfold fPow; simp only [h, if_true]
theorem fSl_ref {μ : Mu} {l : Nat} {xs : List PV} {lo hi : Option Int} (h : getL μ l = some xs) : fSl (.ref l) lo hi μ = .ok (.ref μ.length) (μ ++ [.lst (cutP xs lo hi)]) := by unfold fSl; simp only [h]
theorem cut_from (xs : List PV) (k : Nat) : cutP xs (some (k : Int)) none = xs.drop k := by
  unfold cutP
  rw [HT.sIx_nat, HT.sIx_none]
  by_cases h : k ≤ xs.length
  · rw [Nat.min_eq_left h, List.take_of_length_le (by rw [List.length_drop]; omega)]
  · rw [Nat.min_eq_right (by omega), List.drop_of_length_le (Nat.le_refl _), List.drop_of_length_le (by omega)]; simp
theorem cut_to (xs : List PV) (k : Nat) : cutP xs none (some (k : Int)) = xs.take k := by
  unfold cutP
  rw [HT.sIx_nat, HT.sIx_none, List.drop_zero, Nat.sub_zero]
  by_cases h : k ≤ xs.length
  · rw [Nat.min_eq_left h]
  · rw [Nat.min_eq_right (by omega), List.take_of_length_le (Nat.le_refl _), List.take_of_length_le (by omega)]
theorem cut_both (xs : List PV) (k m : Nat) (h : k ≤ m) : cutP xs (some (k : Int)) (some (m : Int)) = (xs.drop k).take (m - k) := by
  unfold cutP
  rw [HT.sIx_nat, HT.sIx_nat]
  by_cases hk : k ≤ xs.length
  · rw [Nat.min_eq_left hk]
    by_cases hm : m ≤ xs.length
    · rw [Nat.min_eq_left hm]
    · rw [Nat.min_eq_right (by omega), List.take_of_length_le (by rw [List.length_drop]; omega), List.take_of_length_le (by rw [List.length_drop]; omega)]
  · rw [show min k xs.length = xs.length by omega, show min m xs.length = xs.length by omega, List.drop_of_length_le (Nat.le_refl _), List.drop_of_length_le (by omega)]; simp
theorem lid_big : (1180591620717411303424 : Nat) = lid := rfl
/-- a def without arguments whose answer True the kernel works out -/
def okT (r : R PV) : Bool := match r with
  | .ok (.bl true) _ => true
  | _ => false
theorem okT_ok {r : R PV} (h : okT r = true) : ∃ μ, r = .ok (.bl true) μ := by
  unfold okT at h
  split at h
  · exact ⟨_, rfl⟩
  · cases h
def handF (as : List PV) : Option PV := match as with
  | [] => some (.bl true)
  | _ => none
theorem hand_ok {f : DF} (h : okT (f [] []) = true) (as : List PV) (v : PV) (_ : as.length = 0) (hv : handF as = some v) : lowL as = true ∧ low v = true ∧ ∃ μ', f as [] = .ok v μ' := by
  unfold handF at hv
  split at hv
  · cases hv
    exact ⟨rfl, rfl, okT_ok h⟩
  · cases hv
@[simp] theorem gV_hand {μ : Mu} : gV handF [] μ = .ok (.bl true) μ := ndf rfl
end GB
set_option Elab.async false
set_option linter.all false
set_option maxRecDepth 100000
set_option maxHeartbeats 2000000
namespace GB
open PySem PySem.Spec PyProof.Rows L2
/-! ### enumerate over a tuple -/
abbrev enH1 (h : Heap) (a : Addr) : Heap := h.push { cls := .type "tuple_iterator", data := .fields #[.ref a, .int 0 0] }
abbrev enH2 (h : Heap) (a : Addr) : Heap := (enH1 h a).push { cls := .type "enumerate", data := .fields #[.none, .bool false, .ref h.objs.size, rawInt 0, .none, .none] }
theorem meets_enT (a : Addr) (its : Array Value) :
    Meets (Builtin.«enumerate.__new__» ⟨[.type "enumerate", .ref a], []⟩) (fun _ R s => s.heap.IsTuple a its ∧ R (.ok (.ret (.ref (enH1 s.heap a).objs.size))) { s with heap := enH2 s.heap a }) :=
  .of_wp fun prog w A R s h => by
    obtain ⟨hp, g, d, tk, os⟩ := s
    obtain ⟨ht, h⟩ := h
    have sub := sub_enumerate
    have hT : Heap.IsTuple (Shared.heap ⟨hp, g, d, tk, os⟩) a its := ht
    wp_walk
    refine wpAny_stack_any fun st => wpAny_pure ?_
    split
    · rename_i c _ _ _ _ _
      cases (c == Value.type "enumerate") <;> (wp_walk using wpAny_pyIter_tuple hT; exact ⟨_, rfl, h⟩)
    · (wp_walk using wpAny_pyIter_tuple hT); exact ⟨_, rfl, h⟩
section
variable {prog : Program} {w : World} {A : Around} {E : Value → Shared → Prop} {s : Shared}
theorem call_enT {a : Addr} {its : Array Value} {Q : Value → Shared → Prop} (ht : s.heap.IsTuple a its)
    (h : ∀ h', IsEnum h' (s.heap.objs.size + 1) s.heap.objs.size 0 .none → h'.IsTupleIter s.heap.objs.size a 0 → (∀ b o, s.heap.get? b = some o → h'.get? b = some o) → Q (.ref (s.heap.objs.size + 1)) { s with heap := h' }) :
    wpAny (model prog w) A (call (.type "enumerate") [.ref a]) Q E s := by
  refine callType_new F.called_enumerate (by decide) (F.typeCall_enumerate_1 _) (F.newCall_enumerate_1 _) (fun obj => F.args_object_init_2 obj _) F.entry_enumerate_new (meets_enT a its) ⟨ht, ?_⟩
  have z1 : (enH1 s.heap a).objs.size = s.heap.objs.size + 1 := Heap.size_push ..
  have g2 : (enH2 s.heap a).get? (enH1 s.heap a).objs.size = some _ := Heap.get?_push_size _ rfl
  have g1 : (enH2 s.heap a).get? s.heap.objs.size = some _ := Heap.get?_push_of_some _ (Heap.get?_push_size _ rfl)
  show _ ∧ _
  rw [z1] at g2 ⊢
  exact ⟨⟨_, g2, rfl⟩, h _ g2 ⟨_, g1, rfl, rfl⟩ fun b o q => Heap.get?_push_of_some _ (Heap.get?_push_of_some _ q)⟩
end
def IteT (K : PySem.W.Frag) (a : Addr) : It :=
  ⟨fun i H => ∃ (ys : List V) (y : V), SqT K H a ys ∧ ys[i]? = some y, fun i H v H' => ∃ T y, v = .ref T ∧ H T = none ∧ H' = upd H T (.tup [.int (i : Nat), y]) ∧ ∀ ys, SqT K H a ys → ys[i]? = some y, fun i H => ∃ ys : List V, SqT K H a ys ∧ ys.length ≤ i⟩
theorem turn_enT {P : Program} {w : World} {K : PySem.W.Frag} {elts : List Expr} {kk : Nat} {tpos : Pos} (a e it : Addr) :
    Turn P w K (.Tuple elts kk tpos) (IteT K a) [e, it] e (fun i h => (∃ old, IsEnum h e it ((i : Nat) : Int) old) ∧ h.IsTupleIter it a i ∧ e ≠ it ∧ e ≠ a ∧ a ≠ it) where
  mem := by simp
  obj := fun i h st b hb => by
    obtain ⟨⟨old, q1⟩, ⟨o, q2, _, q3⟩, _⟩ := st
    rcases (show b = e ∨ b = it by simpa using hb) with z | z <;> subst z
    · exact ⟨_, q1, fun v q => nomatch q⟩
    · exact ⟨o, q2, fun v q => by rw [q3] at q; cases q⟩
  keep := fun i h h' st k => let ⟨⟨old, q1⟩, q2, q3⟩ := st; ⟨⟨old, k e (by simp) _ q1⟩, q2.at fun o q => k it (by simp) o q, q3⟩
  item := by
    intro X hP hw hK hc i pins s σ H E I hf st hg
    subst hP hw hK
    obtain ⟨⟨old, q1⟩, q2, n1, n2, n3⟩ := st
    obtain ⟨ys, y, hq, hy⟩ := hg
    obtain ⟨its, rv, p, _⟩ := I.tuple hq
    obtain ⟨u, hu, ru⟩ := rv.get hy
    have hlt : i < its.length := by
      rw [← rv.length]
      exact (List.getElem?_eq_some_iff.mp hy).1
    have le : e < s.heap.objs.size := Heap.lt_size q1
    have li : it < s.heap.objs.size := by obtain ⟨_, z, _⟩ := q2; exact Heap.lt_size z
    have D : Draws X.prog X.w X.A.in1 it [it, a] its.toArray.size _ _ := Draws.tuple (show X.A.in1.handled = none from I.ok.hd hc) it a n3 its.toArray
    refine wpAny_pyNext_enum_itemD D q1 ⟨q2, p⟩ (by simpa using hlt) n1 (by simp [n1, n2]) fun x h' tk hx ho st' hT hsz hk => ?_
    have hxu : x = u := by
      simp only [List.getElem?_toArray] at hx
      rw [hu] at hx
      exact (Option.some.inj hx).symm
    subst hxu
    refine ⟨_, rfl, wpAny_letOwnedTupleGo_enum (s := { s with heap := h', toks := tk + 1 }) ho fun h'' he' sb => ?_⟩
    have hT2 := (sb.2 _ (Nat.ne_of_gt le)).trans hT
    have fresh : ObjOk X.prog X.w (upd H s.heap.objs.size (.tup [.int (i : Nat), y])) h'' s.heap.objs.size (.tup [.int (i : Nat), y]) :=
      ⟨by show 2 ≤ sizeLine; decide, [.int i tk, x], .cons ⟨_, rfl⟩ (.cons ru .nil), ⟨_, hT2, rfl, _, rfl⟩⟩
    have I1 : Inv X pins σ (upd H s.heap.objs.size (.tup [.int (i : Nat), y])) { s with heap := h'', toks := tk + 1 } :=
      I.turnedNew (ch := [e, it]) (fun b ob hb q => (sb.2 b (fun z => hb (by simp [z]))).trans (hk b ob (fun z => hb (by simp [z])) (fun z => hb (by simp [z])) q)) hf (Nat.le_refl _) fresh
    refine ⟨.ref s.heap.objs.size, _, I1, rfl, ⟨_, y, rfl, I.hok.fresh (Nat.le_refl _), rfl, fun zs hz => by rw [I.tuple_inj hz hq]; exact hy⟩, ⟨⟨x, by rw [show ((i + 1 : Nat) : Int) = (i : Int) + 1 by omega]; exact he'⟩, st'.1.at fun o q => (sb.2 it (Ne.symm n1)).trans q, n1, n2, n3⟩, fun b hb => ?_⟩
    have lb : b < s.heap.objs.size := by
      rcases (show b = e ∨ b = it by simpa using hb) with z | z <;> subst z <;> assumption
    rw [upd_ne (Nat.ne_of_lt lb)]
    exact (hf b hb).1
  done := by
    intro X hP hw hK hc i pins s σ H E I hf st hg
    subst hP hw hK
    obtain ⟨⟨old, q1⟩, q2, n1, n2, n3⟩ := st
    obtain ⟨ys, hq, hy⟩ := hg
    obtain ⟨its, rv, p, _⟩ := I.tuple hq
    obtain ⟨f0, f1, f2, f3, f4, f5⟩ := hf it (by simp)
    have hl := rv.length
    have D : Draws X.prog X.w X.A.in1 it [it, a] i (fun _ _ => True) (fun j h => j = i ∧ h.IsTupleIter it a i ∧ h.IsTuple a its.toArray) :=
      { live := fun _ _ z => let ⟨o, q, _⟩ := z.2.1; ⟨o, q⟩
        frame := fun _ _ _ z k => ⟨z.1, z.2.1.at fun o q => k it (by simp) o q, z.2.2.at fun o q => k a (by simp) o q⟩
        item := fun j _ _ _ lt z _ => absurd z.1 (Nat.ne_of_lt lt)
        done := fun _ _ _ z hE => wpAny_nextOf_tuple_end (show X.A.in1.handled = none from I.ok.hd hc) z.2.1 z.2.2 (by simp; omega) hE }
    exact wpAny_pyNext_enum_endD D q1 ⟨rfl, q2, p⟩ fun h' eb => ⟨rfl, I.turned (t' := s.toks) (fun b o hb q => eb b o hb q) f0 f1 f3 f4 f5⟩
  self := fun A i s Q E st h => let ⟨⟨_, q1⟩, _⟩ := st; wpAny_pyIter_enum q1 h
def iEnT (K : PySem.W.Frag) (ta : TA) : TI := fun σ H R => ta σ H fun vs H1 => ∃ a xs, vs = [.ref a] ∧ ((SqL K H1 a xs ∧ R (Ite K a) H1) ∨ (SqT K H1 a xs ∧ R (IteT K a) H1))
theorem pi_enT {X : Cx} {e : Expr} {ta : TA} {p pos tpos : Pos} {elts : List Expr} {kk : Nat} (hg : Gl X "enumerate") (hm : X.mg "enumerate" = none) (ha : PA X [e] ta) (hs : starEach [e] X.env = [(false, eval e X.env)] := by rfl) :
    PI X (.Tuple elts kk tpos) (.Call (.Name "enumerate" p) [e] [] pos) (iEnT X.K ta) := by
  refine ⟨fun pins s σ H R I h => ?_⟩
  refine Call_ (ld_blt I hg hm boot_enumerate (PyProof.Rows.callWith_type1 (thn (ha.run pos pins s σ H _ I h) fun us s1 ⟨vs, H1, I1, r1, q1⟩ => ?_) hs rfl))
  obtain ⟨a, xs, ex, q⟩ := q1
  subst ex
  cases r1 with
  | cons r rr =>
    cases rr
    cases r
    have le2 : ∀ b : Nat, (b = s1.heap.objs.size + 1 ∨ b = s1.heap.objs.size) → s1.heap.objs.size ≤ b := fun b z => by omega
    rcases q with ⟨hq, q⟩ | ⟨hq, q⟩
    · obtain ⟨its, rv, p', hz⟩ := I1.list hq
      refine call_enumerate_list p'.isList fun h' he hit hsz hk => wpAny_pyIter_enum he ?_
      have I2 : Inv X pins σ H1 { s1 with heap := h' } := I1.kept (t' := s1.toks) hk
      refine ⟨_, [s1.heap.objs.size + 1, s1.heap.objs.size], _, _, H1, rfl, I2, turn_enum a _ s1.heap.objs.size, ⟨⟨.none, he⟩, hit, Nat.succ_ne_self _⟩, fun b hb => ?_, q⟩
      have lb := le2 b (by simpa using hb)
      exact I1.fpOk lb (I1.hok.fresh lb)
    · obtain ⟨its, rv, p', hz⟩ := I1.tuple hq
      have la : a < s1.heap.objs.size := by obtain ⟨_, z, _⟩ := id p'; exact Heap.lt_size z
      refine call_enT p' fun h' he hit hk => wpAny_pyIter_enum he ?_
      have I2 : Inv X pins σ H1 { s1 with heap := h' } := I1.kept (t' := s1.toks) hk
      refine ⟨_, [s1.heap.objs.size + 1, s1.heap.objs.size], _, _, H1, rfl, I2, turn_enT a _ s1.heap.objs.size, ⟨⟨.none, he⟩, hit, Nat.succ_ne_self _, Nat.ne_of_gt (Nat.lt_succ_of_lt la), Nat.ne_of_lt la⟩, fun b hb => ?_, q⟩
      have lb := le2 b (by simpa using hb)
      exact I1.fpOk lb (I1.hok.fresh lb)
theorem itl_enT {K : PySem.W.Frag} {ι : List Addr} {H : Hp} {xs : List PV} {vs : List V} {a : Addr} (s : SqT K H a vs) (r : RepL K ι H xs vs) : ItL K ι H (jEnum (jTup xs)) (IteT K a) := ⟨fun i ι1 μ1 H1 g hr => by
  unfold jEnum jTup
  have s1 := g.tup a vs s
  have r1 := r.grow g
  simp only [Option.map_some]
  cases q2 : xs[i]? with
  | none =>
    refine ⟨vs, s1, ?_⟩
    rw [r1.length]
    exact List.getElem?_eq_none_iff.mp q2
  | some x =>
    obtain ⟨u, e1, e2⟩ := r1.get q2
    refine ⟨⟨vs, u, s1, e1⟩, fun v H' ⟨T, x', e3, e4, e5, e6⟩ => ?_⟩
    subst e3 e5
    have z1 := e6 vs s1
    rw [e1] at z1
    cases z1
    exact ⟨grow_new e4, hr.new e4, T, _, rfl, .of upd_same, .cons_ rfl (.cons_ (e2.grow (grow_new e4)) .nil_)⟩⟩
/-- enumerate of a list or of a tuple -/
def diEn (a : Dn (List PV)) : Rho → Mu → R DI := fun ρ μ => (a ρ μ).bind fun xs μ => match xs with
  | [.ref l] => match getL μ l with
    | some _ => .ok (jEnum (jLst l)) μ
    | none => .bad
  | [.tup ys] => .ok (jEnum (jTup ys)) μ
  | _ => .bad
theorem i_en {X : Cx} {W : WS} {e : Expr} {p pos tpos : Pos} {dl : Dn (List PV)} {elts : List Expr} {kk : Nat} (hm : X.mg "enumerate" = none) (ha : PA X [e] (LA X.K W dl)) (hg : Gl X "enumerate" := by rfl) (hs : starEach [e] X.env = [(false, eval e X.env)] := by rfl) :
    PI X (.Tuple elts kk tpos) (.Call (.Name "enumerate" p) [e] [] pos) (LI X.K W (diEn dl)) := pi_mono (pi_enT hg hm ha hs) fun σ H R ⟨ρ, μ, ι, sr, hr, h⟩ => by
  refine ⟨ρ, μ, ι, sr, hr, Post.mono (Post.bind h) ?_⟩
  rintro v H1 ⟨x, μ1, ι1, g1, hr1, r1, h1⟩
  split at h1
  · obtain ⟨u, rfl, r2⟩ := one_rep r1
    split at h1
    · rename_i q1
      obtain ⟨a1, vs, i1, i2, _⟩ := getL_sq hr1 q1
      obtain rfl := ref_eq r2 i1
      exact ⟨a1, vs, rfl, .inl ⟨i2, h1.ok hr1 (itl_enum i1)⟩⟩
    · exact h1.elim
  · obtain ⟨u, rfl, a1, vs, rfl, s2, r2⟩ := one_rep r1
    exact ⟨a1, vs, rfl, .inr ⟨s2, h1.ok hr1 (itl_enT s2 r2)⟩⟩
  · exact h1.elim
def enF (xs : List PV) (μ : Mu) : R DI := match xs with
  | [.ref l] => match getL μ l with
    | some _ => .ok (jEnum (jLst l)) μ
    | none => .bad
  | [.tup ys] => .ok (jEnum (jTup ys)) μ
  | _ => .bad
@[simp] theorem diEn_ {l : Dn (List PV)} {ρ : Rho} {μ : Mu} : diEn l ρ μ = (l ρ μ).bind enF := ndf rfl
theorem en_ok {μ : Mu} {l : Nat} {xs : List PV} (h : getL μ l = some xs) : enF [.ref l] μ = .ok (jEnum (jLst l)) μ := by unfold enF; simp only [h]
@[simp] theorem en_tup {μ : Mu} {xs : List PV} : enF [.tup xs] μ = .ok (jEnum (jTup xs)) μ := ndf rfl
/-! ### the law's own comparison -/
def smL (f : PV → PV → Bool) : List PV → List PV → Bool
  | [], [] => true
  | x :: xs, y :: ys => f x y && smL f xs ys
  | _, _ => false
/-- x tells the same as y, so deep -/
def sm : Nat → Mu → PV → PV → Bool
  | 0, _, _, _ => false
  | n + 1, μ, x, y => match x, y with
    | .tup xs, .tup ys => decide (xs.length < 1000000) && smL (sm n μ) xs ys
    | .ref l, .ref m => match getL μ l, getL μ m with
      | some xs, some ys => decide (xs.length < 1000000) && smL (sm n μ) xs ys
      | _, _ => false
    | .int i, .int j => decide (i = j)
    | .bl a, .bl b => a == b
    | .non, .non => true
    | _, _ => false
def sameF (as : List PV) (μ : Mu) : Option PV := match as with
  | [x, y] => if sm 8 μ x y then some (.bl true) else none
  | _ => none
end GB
set_option Elab.async false
set_option linter.all false
set_option maxRecDepth 100000
set_option maxHeartbeats 2000000
namespace GB
open PySem PySem.Spec PyProof.Rows L2
/-! ### min([], default=d): the empty list alone -/
theorem args_minD (a d : Value) : argsOk "min" ⟨[a], [(Str.ofString "default", d)]⟩ := by unfold argsOk; kernel_rfl
section
variable {prog : Program} {w : World} {A : Around} {E : Value → Shared → Prop} {s : Shared}
theorem call_minD {l : Addr} {d : Value} {Q : Value → Shared → Prop} (hh : A.handled = none) (hl : s.heap.IsList l #[])
    (h : ∀ h' : Heap, (∀ b o, s.heap.get? b = some o → h'.get? b = some o) → Q d { s with heap := h' }) : wpAny (model prog w) A (call (.builtin "min") [.ref l] [(Str.ofString "default", d)]) Q E s := by
  have body : wpAny (model prog w) A.in1 (Builtin.«min» ⟨[.ref l], [(Str.ofString "default", d)]⟩) (fun fin s' => match fin with
      | .done f => (match (Except.ok f : Result) with | .ok (.ret v) => Q v s' | .ok _ => False | .error e => E e s')
      | .again c' => c'.quiet = true ∧ codeAny (model prog w) A c' (fun r s' => match r with | .ok (.ret v) => Q v s' | .ok _ => False | .error e => E e s') s') E s := by
    show wpAny _ A.in1 (Builtin.Builtins.bindParams "min" ["key", "default"] 0 ⟨[], [(Str.ofString "default", d)]⟩ >>= _) _ _ s
    refine wpAny_bind (wpAny_of_eq (show Builtin.Builtins.bindParams "min" ["key", "default"] 0 ⟨[], [(Str.ofString "default", d)]⟩ = pure [none, some d] from rfl) ?_)
    refine wpAny_bind (wpAny_pure ?_)
    refine wpAny_bind (wpAny_pyIter_list hl ?_)
    refine wpAny_bind (wpAny_newObj_type ?_)
    rw [show (toString "min" ++ toString ".loop" : String) = "min.loop" by decide]
    refine wpAny_pure ⟨plainId_quiet F.plain_min_loop _, ?_⟩
    refine codeAny_builtin F.entry_min_loop ?_
    rw [Around.under_plainId F.plain_min_loop _]
    show wpAny _ A.in1 (seqItems? _ >>= _) _ _ _
    refine wpAny_bind (wpAny_seqItems (Heap.get?_push_size _ rfl) rfl ?_)
    show wpAny _ A.in1 (tryCatch (pyNext (.ref s.heap.objs.size)) _ >>= _) _ _ _
    have hit : (s.heap.push { cls := .type "list_iterator", data := .fields #[.ref l, .int 0 0] }).IsListIter s.heap.objs.size l 0 := ⟨_, Heap.get?_push_size _ rfl, rfl, rfl⟩
    refine wpAny_bind (wpAny_tryCatch (wpAny_pyNext_list_end (show A.in1.handled = none from hh) (hit.at fun o q => Heap.get?_push_of_some _ q) (hl.at fun o q => Heap.get?_push_of_some _ (Heap.get?_push_of_some _ q)) rfl fun h' eb => ?_))
    refine wpAny_bind (wpAny_rule ?_)
    refine wpAny_pure (h _ fun b o q => ?_)
    have lt := Heap.lt_size q
    exact eb b o (Nat.ne_of_lt lt) (Heap.get?_push_of_some _ (Heap.get?_push_of_some _ q))
  refine wpAny_call (codeAny_call_builtin F.plain_min F.entry_min ?_)
  have ha := args_minD (.ref l) d
  simp only [checkBuiltinCall, F.kind_min]
  cases hs : Manifest.signature? "min" with
  | none => exact wpAny_pure body
  | some sig =>
    simp only [argsOk, hs] at ha
    have h2 : Bind.checkArgs "min" sig ⟨[.ref l], [(Str.ofString "default", d)]⟩ = pure () := ha
    show wpAny _ A.in1 (Bind.checkArgs "min" sig ⟨[.ref l], [(Str.ofString "default", d)]⟩) _ _ s
    rw [h2]
    exact wpAny_pure body
end
def rMinD (K : PySem.W.Frag) : List V → List V → Hp → VK → Prop := fun vs zs H Q => ∃ (a : Addr) (d : V), vs = [V.ref a] ∧ SqL K H a [] ∧ zs = [d] ∧ Q d H
theorem cr_minD {X : Cx} (hc : X.calm = true) : CallRK X (.builtin "min") [Str.ofString "default"] (rMinD X.K) := by
  intro pins s σ H vs zs us ws Q I r1 r2 h
  obtain ⟨a, d, rfl, hs, rfl, q⟩ := h
  obtain ⟨its, rv, hl, _⟩ := I.list hs
  cases r1 with
  | cons x rr =>
    cases rr
    cases x
    cases r2 with
    | cons y ry =>
      cases ry
      cases rv
      exact call_minD (I.ok.hd hc) hl.isList fun h' k => ⟨d, H, I.kept (t' := s.toks) k, y, q⟩
def fMinD (xs : List PV) (v : PV) (μ : Mu) : R PV := match xs with
  | [.ref l] => match getL μ l with
    | some [] => .ok v μ
    | _ => .bad
  | _ => .bad
/-- min(xs, default=d), the empty list -/
def dMinD (l : Dn (List PV)) (d : Dn PV) : Dn PV := fun ρ μ => (l ρ μ).bind fun xs μ => (d ρ μ).bind fun v μ => fMinD xs v μ
theorem e_minD {X : Cx} {W : WS} {e o : Expr} {es : List Expr} {p pos kpos : Pos} {dl : Dn (List PV)} {dd : Dn PV} (hm : X.mg "min" = none) (ha : PA X (e :: es) (LA X.K W dl)) (hd : PE X o (LE X.K W dd)) (hc : X.calm = true := by rfl) (hg : Gl X "min" := by rfl)
    (he : backTo pos (starEach (e :: es) X.env) = (false, eval e X.env) :: backTo pos (starEach es X.env) := by rfl) (hpl : (backTo pos (starEach (e :: es) X.env)).any (·.1) = false := by rfl)
    (hall : (backToKw pos (keywordEach [⟨some (Str.ofString "default"), o, kpos⟩] X.env)).all (·.1.isSome) = true := by rfl) (hnone : (backToKw pos (keywordEach [⟨some (Str.ofString "default"), o, kpos⟩] X.env)).any (·.1.isNone) = false := by rfl) (hks : (backToKw pos (keywordEach [⟨some (Str.ofString "default"), o, kpos⟩] X.env)).filterMap (·.1) = [Str.ofString "default"] := by rfl) :
    PE X (.Call (.Name "min" p) (e :: es) [⟨some (Str.ofString "default"), o, kpos⟩] pos) (LE X.K W (dMinD dl dd)) :=
  (pe_callBK (cr_minD hc) hg hm (by decide +kernel) ha (pk_cons hd pk_nil) (by decide) (by decide) he hpl hall hnone hks).mono fun σ H Q ⟨ρ, μ, ι, sr, hr, h⟩ => by
    refine ⟨ρ, μ, ι, sr, hr, Post.mono (Post.bind h) ?_⟩
    rintro vs H1 ⟨xs, μ1, ι1, g1, hr1, r1, h1⟩
    refine ⟨ρ, μ1, ι1, sr.grow g1, hr1, Post.mono (Post.bind h1) ?_⟩
    rintro u H2 ⟨y, μ2, ι2, g2, hr2, r2, h2⟩
    unfold fMinD at h2
    split at h2
    · obtain ⟨v, rfl, r⟩ := one_rep r1
      split at h2
      · rename_i q
        obtain ⟨a, ys, e1, e2, e3, _⟩ := getL_sq hr2 q
        obtain rfl := ref_eq (r.grow g2) e1
        have : ys = [] := List.length_eq_zero_iff.mp (by simpa using e3.length)
        subst this
        exact ⟨a, u, rfl, e2, rfl, h2.ok hr2 r2⟩
      · exact h2.elim
    · exact h2.elim
@[simp] theorem dMinD_ {l : Dn (List PV)} {d : Dn PV} {ρ : Rho} {μ : Mu} : dMinD l d ρ μ = (l ρ μ).bind fun xs μ => (d ρ μ).bind fun v μ => fMinD xs v μ := ndf rfl
theorem fMinD_nil {μ : Mu} {l : Nat} {v : PV} (h : getL μ l = some []) : fMinD [.ref l] v μ = .ok v μ := by unfold fMinD; simp only [h]
end GB
set_option Elab.async false
set_option linter.all false
set_option maxRecDepth 100000
set_option maxHeartbeats 4000000
namespace GB
open PySem PySem.Spec PyProof.Rows L2
end GB
set_option Elab.async false
set_option linter.all false
set_option maxRecDepth 100000
set_option maxHeartbeats 2000000
namespace GB
open PySem L2
def nxt (p q c a : Int) : Int := p * a / q + c
def okS (p q c a n : Int) : Bool := decide (1 ≤ q) && decide (q ≤ p) && decide (p ≤ 1000000) && decide (0 ≤ c) && (!decide (p = q) || decide (1 ≤ c)) && decide (1 ≤ a) && decide (a < nxt p q c a) && decide (a < 2 ^ 140) && decide (c < 2 ^ 140) && decide (1 ≤ n) && decide (n ≤ 390)
def blk (p q c a : Int) : Nat → Int × Int
  | 0 => (0, a)
  | k + 1 => if nxt p q c (blk p q c a k).2 ≤ (blk p q c a k).1 then (0, nxt p q c (blk p q c a k).2) else ((blk p q c a k).1 + (blk p q c a k).2, nxt p q c (blk p q c a k).2)
def tpS (p q c a : Int) (k : Nat) : Int := if (blk p q c a (k + 1)).1 + (blk p q c a (k + 1)).2 > (blk p q c a k).1 + (blk p q c a k).2 then (blk p q c a (k + 1)).1 + (blk p q c a (k + 1)).2 else (blk p q c a k).1 + (blk p q c a k).2
def frac (a b : Int) : PV := .tup [.int (a / Int.gcd a b), .int (b / Int.gcd a b)]
def shs (p q c a : Int) (n : Nat) : List PV := (List.range n).map fun k => frac (tpS p q c a k) (blk p q c a (k + 1)).2
def nds (p q c a : Int) (n : Nat) : List PV := (List.range n).map fun k => .int (tpS p q c a k)
def bks (p q c a : Int) (n : Nat) : List PV := (List.range n).map fun k => .bl (decide ((blk p q c a (k + 1)).1 = 0))
/-- a spec over (rule, START, number) -/
def by3 (f : Int → Int → Int → Int → Nat → PV) (as : List PV) : Option PV := match as with
  | [.tup [.int p, .int q, .int c], .int a, .int n] => if okS p q c a n then some (f p q c a n.toNat) else none
  | _ => none
def by3L (f : Int → Int → Int → Int → Nat → List PV) (as : List PV) : Option (List PV) := match as with
  | [.tup [.int p, .int q, .int c], .int a, .int n] => if okS p q c a n then some (f p q c a n.toNat) else none
  | _ => none
def sharesF := by3 fun p q c a n => .tup (shs p q c a n)
def needsF := by3L nds
def partsF := by3L shs
def backsF := by3 fun p q c a n => .tup (bks p q c a n)
def intT : List PV → Bool
  | [] => true
  | .int _ :: r => intT r
  | _ => false
def tupF (as : List PV) : Option PV := match as with
  | [.tup xs] => if intT xs && decide (xs.length < 1000000) then some (.tup xs) else none
  | _ => none
def cellsF := by3 fun p q c a n => .int (tpS p q c a (n - 1))
def tps (p q c a : Int) (n : Nat) : List Int := (List.range n).map fun k => tpS p q c a k
def mxL (ns : List Int) : Int := match ns with
  | m :: r => maxI m r
  | [] => 0
def markF := by3 fun p q c a n => .int (mxL (tps p q c a n))
def linI (p q c a : Int) (n : Nat) : List Int := (List.range n).map fun k => (blk p q c a (k + 1)).1
def readF (as : List PV) : Option PV := match as with
  | [.tup [.int p, .int q, .int c], .tup xs] => match allI xs with
    | some (a :: r) => if okS p q c a 12 && decide (a :: r = linI p q c a 12) then some (.bl true) else none
    | _ => none
  | _ => none
def szR (ns : List Int) : List PV := (List.range ns.length).map fun i => if ns.getD i 0 = 0 then .non else .int (ns.getD i 0 - (0 :: ns).getD i 0)
def sizesRF (as : List PV) : Option PV := match as with
  | [.tup xs] => match allI xs with
    | some ns => if decide (ns.length < 1000) && decide (0 < ns.length) then some (.tup (szR ns)) else none
    | none => none
  | _ => none
def partF (as : List PV) : Option PV := match as with
  | [.tup [.int p, .int q, .int c], .tup [.int p2, .int q2, .int c2], .int a] => if okS p q c a 60 && decide (p = p2) && decide (q = q2) && decide (c = c2) then some .non else none
  | _ => none
def caseF (as : List PV) : Option PV := match as with
  | [.tup [.int p, .int q, .int c], .int a, .int n] => if okS p q c a n && decide (13 ≤ n) then some (.bl true) else none
  | _ => none
end GB
set_option Elab.async false
set_option linter.all false
set_option maxRecDepth 100000
set_option maxHeartbeats 4000000
namespace GB
open PySem PySem.Spec PyProof.Rows L2
def top (i : Nat) : Stmt := PySem.Challenge.pw_growback_k94_great_starts.main.body.getD i (.Pass ⟨0, 0, 0, 0⟩)
abbrev st_is_number : Stmt := top 1
abbrev st_tupled : Stmt := top 2
abbrev st_fraction : Stmt := top 3
abbrev st_next_size : Stmt := top 7
abbrev st_is_start : Stmt := top 8
abbrev st_check_start : Stmt := top 9
abbrev st_blocks_along : Stmt := top 11
abbrev st_needs : Stmt := top 12
abbrev st_cells_needed : Stmt := top 13
abbrev st_mark_of : Stmt := top 14
abbrev st_shares : Stmt := top 15
abbrev st_share : Stmt := top 16
abbrev st_is_less : Stmt := top 17
abbrev st_greatest_share : Stmt := top 18
abbrev st_is_read_by : Stmt := top 21
abbrev st_sizes_read : Stmt := top 22
abbrev st_backs_read : Stmt := top 23
abbrev st_growths_to_part : Stmt := top 24
abbrev st__law_box : Stmt := top 26
abbrev st__law_take : Stmt := top 27
abbrev st__law_cells : Stmt := top 28
abbrev st__law_of : Stmt := top 29
abbrev st__law_same : Stmt := top 30
abbrev st__law_kin : Stmt := top 31
abbrev st__law_rows : Stmt := top 32
abbrev st__law_ends : Stmt := top 33
abbrev st__law_gcd : Stmt := top 34
abbrev st__law_part : Stmt := top 35
abbrev st__law_parts : Stmt := top 36
abbrev st__law_case_right : Stmt := top 37
abbrev st__law_by_hand_right : Stmt := top 38
abbrev st__law_right : Stmt := top 39
abbrev st_law : Stmt := top 40
abbrev FnP (K : PySem.W.Frag) (x : Str) (st : Stmt) (f : Addr) (fd : FuncData) : Prop := FunD K x x (defArgs st) (defBody st) (defScope st) [] [] f fd
def d_is_number : DS := dRet (dAnd (dUn (fIsi "int") (dVar 0)) (dNot (dUn (fIsi "bool") (dVar 0))))
def f_is_number : DF := runF 1 d_is_number
def d_tupled (g_self : DF) : DS := dRet (dIf (asB (dUn (fIsiL ["list", "tuple"]) (dVar 0))) (dApp fTuple (dCons (dLc (diSeq (dVar 0)) (gcN 1) (dYes) (dCall 1 g_self (dCons (dVar 1) (dNil))) [1]) (dNil))) (dVar 0))
def f_tupled : Nat → DF
  | 0 => fun _ _ => .bad
  | n + 1 => runF 2 (d_tupled (f_tupled n))
def d_fraction : DS := dSeq (dPar 2 3 (dCons (dApp fAbs (dCons (dVar 0) (dNil))) (dCons (dVar 1) (dNil)))) (dSeq (dWhile (asB (dOp fNe (dVar 3) (dC (.int 0)))) (dPar 2 3 (dCons (dVar 3) (dCons (dOp fMod (dVar 2) (dVar 3)) (dNil))))) (dRet (dTup (dCons (dOp fDiv (dVar 0) (dVar 2)) (dCons (dOp fDiv (dVar 1) (dVar 2)) (dNil))))))
def f_fraction : DF := runF 4 d_fraction
def d_next_size : DS := dSeq (dAsg (dVar 0) (gT 3 (gsC (gN 2) (gsC (gN 3) (gsC (gN 4) (gsN)))))) (dRet (dOp fAdd (dOp fDiv (dOp fMulI (dVar 2) (dVar 1)) (dVar 3)) (dVar 4)))
def f_next_size : DF := runF 5 d_next_size
def d_is_start : DS := dRet (dAnd (dCall 1 f_is_number (dCons (dVar 1) (dNil))) (dAnd (dOp fGe (dVar 1) (dC (.int 1))) (dOp fGt (dCall 2 f_next_size (dCons (dVar 0) (dCons (dVar 1) (dNil)))) (dVar 1))))
def f_is_start : DF := runF 2 d_is_start
def d_check_start : DS := dIfS (dNotB (dTru (dCall 2 f_is_start (dCons (dVar 0) (dCons (dVar 1) (dNil)))))) (dNever) (dSkip)
def f_check_start : DF := runF 2 d_check_start
def d_blocks_along : DS := dSeq (dDrop (dCall 2 f_check_start (dCons (dVar 0) (dCons (dVar 1) (dNil))))) (dSeq (dAsg (dLst (dCons (dTup (dCons (dC (.int 0)) (dCons (dVar 1) (dNil)))) (dNil))) (gN 3)) (dSeq (dFor (diRng1 (dCons (dVar 2) (dNil))) (gN 4) (dSeq (dAsg (dOp fIx (dVar 3) (dUn fNeg (dC (.int 1)))) (gT 2 (gsC (gN 6) (gsC (gN 7) (gsN))))) (dSeq (dAsg (dCall 2 f_next_size (dCons (dVar 0) (dCons (dVar 7) (dNil)))) (gN 5)) (dDrop (dMeth fAppend (dVar 3) (dCons (dTup (dCons (dIf (asB (dOp fLe (dVar 5) (dVar 6))) (dC (.int 0)) (dOp fAdd (dVar 6) (dVar 7))) (dCons (dVar 5) (dNil)))) (dNil))))))) (dRet (dVar 3))))
def f_blocks_along : DF := runF 8 d_blocks_along
def d_needs : DS := dSeq (dAsg (dCall 3 f_blocks_along (dCons (dVar 0) (dCons (dVar 1) (dCons (dVar 2) (dNil))))) (gN 3)) (dRet (dLc (diZip (dCons (dVar 3) (dCons (dSl (dVar 3) (dPart (dC (.int 1))) (dNoPart)) (dNil)))) (gc2 4 5) (dYes) (dApp fMax (dCons (dApp fSum (dCons (dVar 4) (dNil))) (dCons (dApp fSum (dCons (dVar 5) (dNil))) (dNil)))) [4, 5]))
def f_needs : DF := runF 6 d_needs
def d_cells_needed : DS := dRet (dOp fIx (dCall 3 (gL needsF) (dCons (dVar 0) (dCons (dVar 1) (dCons (dVar 2) (dNil))))) (dUn fNeg (dC (.int 1))))
def f_cells_needed : DF := runF 3 d_cells_needed
def d_mark_of : DS := dRet (dApp fMax (dCons (dLst (dCons (dVar 1) (dStar (dCall 3 (gL needsF) (dCons (dVar 0) (dCons (dVar 1) (dCons (dVar 2) (dNil))))) (dNil)))) (dNil)))
def f_mark_of : DF := runF 3 d_mark_of
def d_shares : DS := dSeq (dAsg (dCall 3 f_blocks_along (dCons (dVar 0) (dCons (dVar 1) (dCons (dVar 2) (dNil))))) (gN 3)) (dRet (dApp fTuple (dCons (dLc (diZip (dCons (dVar 3) (dCons (dSl (dVar 3) (dPart (dC (.int 1))) (dNoPart)) (dNil)))) (gc2 4 5) (dYes) (dCall 2 f_fraction (dCons (dApp fMax (dCons (dApp fSum (dCons (dVar 4) (dNil))) (dCons (dApp fSum (dCons (dVar 5) (dNil))) (dNil)))) (dCons (dOp fIx (dVar 5) (dC (.int 1))) (dNil)))) [4, 5]) (dNil))))
def f_shares : DF := runF 6 d_shares
def d_share : DS := dRet (dOp fIx (dCall 3 (gV sharesF) (dCons (dVar 0) (dCons (dVar 1) (dCons (dVar 2) (dNil))))) (dUn fNeg (dC (.int 1))))
def f_share : DF := runF 3 d_share
def d_is_less : DS := dRet (dOp fLt (dOp fMulI (dOp fIx (dVar 0) (dC (.int 0))) (dOp fIx (dVar 1) (dC (.int 1)))) (dOp fMulI (dOp fIx (dVar 1) (dC (.int 0))) (dOp fIx (dVar 0) (dC (.int 1)))))
def f_is_less : DF := runF 2 d_is_less
def d_greatest_share : DS := dSeq (dAsg (dC .non) (gN 3)) (dSeq (dFor (diEn (dCons (dCall 3 (gV sharesF) (dCons (dVar 0) (dCons (dVar 1) (dCons (dVar 2) (dNil))))) (dNil))) (gT 2 (gsC (gN 4) (gsC (gN 5) (gsN)))) (dIfS (dOrB (asB (dUn fIsN (dVar 3))) (dTru (dCall 2 f_is_less (dCons (dOp fIx (dVar 3) (dC (.int 1))) (dCons (dVar 5) (dNil)))))) (dAsg (dTup (dCons (dOp fAdd (dVar 4) (dC (.int 1))) (dCons (dVar 5) (dNil)))) (gN 3)) (dSkip))) (dRet (dVar 3)))
def f_greatest_share : DF := runF 6 d_greatest_share
def d_is_read_by : DS := dSeq (dAsg (dCall 1 (gV tupF) (dCons (dVar 1) (dNil))) (gN 2)) (dSeq (dIfS (asB (dOp fEq (dApp fLen (dCons (dVar 2) (dNil))) (dC (.int 0)))) (dRet (dC (.bl true))) (dSkip)) (dSeq (dIfS (dNotB (dTru (dCall 2 f_is_start (dCons (dVar 0) (dCons (dOp fIx (dVar 2) (dC (.int 0))) (dNil)))))) (dRet (dC (.bl false))) (dSkip)) (dRet (dOp fEq (dApp fTuple (dCons (dLc (diSeq (dSl (dCall 3 f_blocks_along (dCons (dVar 0) (dCons (dOp fIx (dVar 2) (dC (.int 0))) (dCons (dApp fLen (dCons (dVar 2) (dNil))) (dNil))))) (dPart (dC (.int 1))) (dNoPart))) (gc2 3 4) (dYes) (dVar 3) [3, 4]) (dNil))) (dVar 2)))))
def f_is_read_by : DF := runF 5 d_is_read_by
def d_sizes_read : DS := dSeq (dAsg (dLst (dCons (dC (.int 0)) (dStar (dVar 0) (dNil)))) (gN 1)) (dRet (dApp fTuple (dCons (dLc (diZip (dCons (dVar 1) (dCons (dSl (dVar 1) (dPart (dC (.int 1))) (dNoPart)) (dNil)))) (gc2 2 3) (dYes) (dIf (asB (dOp fEq (dVar 3) (dC (.int 0)))) (dC .non) (dOp fSub (dVar 3) (dVar 2))) [2, 3]) (dNil))))
def f_sizes_read : DF := runF 4 d_sizes_read
def d_backs_read : DS := dRet (dApp fTuple (dCons (dLc (diSeq (dSl (dCall 3 f_blocks_along (dCons (dVar 0) (dCons (dVar 1) (dCons (dVar 2) (dNil))))) (dPart (dC (.int 1))) (dNoPart))) (gc2 3 4) (dYes) (dOp fEq (dVar 3) (dC (.int 0))) [3, 4]) (dNil)))
def f_backs_read : DF := runF 5 d_backs_read
def d_growths_to_part : DS := dSeq (dDrop (dCall 2 f_check_start (dCons (dVar 0) (dCons (dVar 2) (dNil))))) (dSeq (dDrop (dCall 2 f_check_start (dCons (dVar 1) (dCons (dVar 2) (dNil))))) (dSeq (dAsg (dTup (dCons (dCall 3 (gV backsF) (dCons (dVar 0) (dCons (dVar 2) (dCons (dC (.int 60)) (dNil))))) (dCons (dCall 3 (gV backsF) (dCons (dVar 1) (dCons (dVar 2) (dCons (dC (.int 60)) (dNil))))) (dNil)))) (gT 2 (gsC (gN 3) (gsC (gN 4) (gsN))))) (dRet (dMinD (dCons (dLc (diEn (dCons (dVar 3) (dNil))) (gc2 5 6) (asB (dOp fNe (dVar 6) (dOp fIx (dVar 4) (dVar 5)))) (dOp fAdd (dVar 5) (dC (.int 1))) [5, 6]) (dNil)) (dC .non)))))
def f_growths_to_part : DF := runF 7 d_growths_to_part
def d__law_box : DS := dSeq (dAsg (dIf (asB (dOp fLt (dVar 1) (dApp fLen (dCons (dVar 0) (dNil))))) (dOp fIx (dVar 0) (dVar 1)) (dC (.int 0))) (gN 2)) (dRet (dLst (dCons (dOp fMulI (dApp fAbs (dCons (dVar 2) (dNil))) (dApp fInt (dCons (dOp fGe (dApp fAbs (dCons (dVar 2) (dNil))) (dOp fPow (dC (.int 10)) (dC (.int 18)))) (dNil)))) (dCons (dOp fAdd (dOp fAdd (dOp fMod (dApp fInt (dCons (dVar 2) (dNil))) (dC (.int 2305843009213693951))) (dOp fMulI (dC (.int 39373)) (dVar 1))) (dC (.int 2993))) (dCons (dC (.int 0)) (dNil))))))
def f__law_box : DF := runF 3 d__law_box
def d__law_take : DS := dSeq (dIfS (asB (dOp fGt (dOp fIx (dVar 0) (dC (.int 0))) (dC (.int 0)))) (dSeq (dAsg (dOp fMod (dApp fInt (dCons (dOp fIx (dVar 0) (dC (.int 0))) (dNil))) (dVar 1)) (gN 5)) (dSeq (dAsg (dOp fDiv (dOp fIx (dVar 0) (dC (.int 0))) (dVar 1)) (gSubL (dVar 0) (dC (.int 0)))) (dRet (dVar 5)))) (dSkip)) (dSeq (dAsg (dOp fAdd (dOp fIx (dVar 0) (dC (.int 2))) (dC (.int 1))) (gSubL (dVar 0) (dC (.int 2)))) (dSeq (dAsg (dOp fMod (dApp fInt (dCons (dOp fMulI (dOp fAdd (dOp fIx (dVar 0) (dC (.int 1))) (dOp fMulI (dC (.int 48271)) (dOp fIx (dVar 0) (dC (.int 2))))) (dOp fAdd (dC (.int 39373)) (dOp fIx (dVar 0) (dC (.int 2))))) (dNil))) (dC (.int 2147483647))) (gN 2)) (dSeq (dAsg (dOp fAdd (dOp fMod (dApp fInt (dCons (dVar 2) (dNil))) (dC (.int 40009))) (dC (.int 7))) (gN 3)) (dSeq (dAsg (dOp fMod (dApp fInt (dCons (dOp fMulI (dOp fAdd (dOp fAdd (dVar 2) (dOp fIx (dVar 0) (dC (.int 2)))) (dOp fDiv (dOp fIx (dVar 0) (dC (.int 1))) (dC (.int 1000003)))) (dVar 3)) (dNil))) (dC (.int 2147483629))) (gN 4)) (dRet (dOp fMod (dApp fInt (dCons (dOp fDiv (dOp fMod (dApp fInt (dCons (dOp fAdd (dOp fMulI (dVar 4) (dC (.int 48271))) (dVar 2)) (dNil))) (dC (.int 2147483587))) (dC (.int 64))) (dNil))) (dVar 1)))))))
def f__law_take : DF := runF 6 d__law_take
def d__law_cells : DS := dSeq (dAsg (dOr (dApp fList (dCons (dSl (dVar 0) (dNoPart) (dPart (dVar 1))) (dNil))) (dLst (dCons (dC (.int 0)) (dNil)))) (gN 2)) (dSeq (dFor (diEn (dCons (dSl (dVar 0) (dPart (dVar 1)) (dPart (dC (.int 63)))) (dNil))) (gT 2 (gsC (gN 3) (gsC (gN 4) (gsN)))) (dSeq (dAsg (dOp fMod (dApp fInt (dCons (dVar 3) (dNil))) (dVar 1)) (gN 5)) (dAsg (dOp fAdd (dOp fIx (dVar 2) (dVar 5)) (dOp fMulI (dVar 4) (dOp fAdd (dVar 3) (dC (.int 2))))) (gSubL (dVar 2) (dVar 5))))) (dRet (dVar 2)))
def f__law_cells : DF := runF 6 d__law_cells
def d__law_of : DS := dRet (dOp fIx (dVar 1) (dCall 2 f__law_take (dCons (dVar 0) (dCons (dApp fLen (dCons (dVar 1) (dNil))) (dNil)))))
def f__law_of : DF := runF 2 d__law_of
def d__law_same (g_self : DF) : DS := dSeq (dIfS (asB (dUn (fIsiL ["list", "tuple"]) (dVar 1))) (dSeq (dIfS (dOrB (asB (dOp fNe (dUn (fIsi "list") (dVar 0)) (dUn (fIsi "list") (dVar 1)))) (asB (dOp fNe (dUn (fIsi "tuple") (dVar 0)) (dUn (fIsi "tuple") (dVar 1))))) (dRet (dC (.bl false))) (dSkip)) (dRet (dAnd (dOp fEq (dApp fLen (dCons (dVar 0) (dNil))) (dApp fLen (dCons (dVar 1) (dNil)))) (dApp fAll (dCons (dLc (diZip (dCons (dVar 0) (dCons (dVar 1) (dNil)))) (gc2 3 4) (dYes) (dCall 2 g_self (dCons (dVar 3) (dCons (dVar 4) (dNil)))) [3, 4]) (dNil)))))) (dSkip)) (dSeq (dIfS (asB (dUn (fIsi "dict") (dVar 1))) (dSeq (dIfS (dOrB (dNotB (asB (dUn (fIsi "dict") (dVar 0)))) (asB (dOp fNe (dApp fSorted (dCons (dVar 0) (dNil))) (dApp fSorted (dCons (dVar 1) (dNil)))))) (dRet (dC (.bl false))) (dSkip)) (dRet (dApp fAll (dCons (dLc (diSeq (dVar 1)) (gcN 2) (dYes) (dCall 2 g_self (dCons (dOp fIx (dVar 0) (dVar 2)) (dCons (dOp fIx (dVar 1) (dVar 2)) (dNil)))) [2]) (dNil))))) (dSkip)) (dSeq (dIfS (dOrB (asB (dUn fIsN (dVar 1))) (asB (dUn (fIsiL ["bool", "str"]) (dVar 1)))) (dRet (dAnd (dOp fEq (dVar 0) (dVar 1)) (dAnd (dOp fEq (dUn (fIsi "bool") (dVar 0)) (dUn (fIsi "bool") (dVar 1))) (dOp fEq (dUn fIsN (dVar 0)) (dUn fIsN (dVar 1)))))) (dSkip)) (dRet (dAnd (dUn (fIsi "int") (dVar 0)) (dAnd (dNot (dUn (fIsi "bool") (dVar 0))) (dOp fEq (dVar 0) (dVar 1)))))))
def f__law_same : Nat → DF
  | 0 => fun _ _ => .bad
  | n + 1 => runF 5 (d__law_same (f__law_same n))
def d__law_kin : DS := dSeq (dAsg (dOp fAdd (dC (.int 1)) (dCall 2 f__law_take (dCons (dVar 0) (dCons (dVar 1) (dNil))))) (gN 3)) (dSeq (dAsg (dOp fAdd (dVar 3) (dCall 2 f__law_take (dCons (dVar 0) (dCons (dOp fSub (dOp fAdd (dVar 1) (dC (.int 1))) (dVar 3)) (dNil))))) (gN 4)) (dSeq (dAsg (dCall 2 f__law_take (dCons (dVar 0) (dCons (dOp fAdd (dVar 2) (dC (.int 1))) (dNil)))) (gN 5)) (dRet (dTup (dCons (dVar 4) (dCons (dVar 3) (dCons (dIf (asB (dOp fEq (dVar 4) (dVar 3))) (dApp fMax (dCons (dC (.int 1)) (dCons (dVar 5) (dNil)))) (dVar 5)) (dNil))))))))
def f__law_kin : DF := runF 6 d__law_kin
def d__law_rows : DS := dSeq (dAsg (dLst (dCons (dTup (dCons (dC (.int 0)) (dCons (dVar 1) (dNil)))) (dNil))) (gN 3)) (dSeq (dFor (diRng1 (dCons (dVar 2) (dNil))) (gN 4) (dSeq (dAsg (dOp fIx (dVar 3) (dUn fNeg (dC (.int 1)))) (gT 2 (gsC (gN 6) (gsC (gN 7) (gsN))))) (dSeq (dAsg (dOp fAdd (dOp fDiv (dOp fMulI (dOp fIx (dVar 0) (dC (.int 0))) (dVar 7)) (dOp fIx (dVar 0) (dC (.int 1)))) (dOp fIx (dVar 0) (dC (.int 2)))) (gN 5)) (dDrop (dMeth fAppend (dVar 3) (dCons (dIf (asB (dOp fLe (dVar 5) (dVar 6))) (dTup (dCons (dC (.int 0)) (dCons (dVar 5) (dNil)))) (dTup (dCons (dOp fAdd (dVar 6) (dVar 7)) (dCons (dVar 5) (dNil))))) (dNil))))))) (dRet (dVar 3)))
def f__law_rows : DF := runF 8 d__law_rows
def d__law_ends : DS := dSeq (dAsg (dCall 3 f__law_rows (dCons (dVar 0) (dCons (dVar 1) (dCons (dVar 2) (dNil))))) (gN 3)) (dRet (dLc (diRng1 (dCons (dVar 2) (dNil))) (gcN 4) (dYes) (dApp fMax (dCons (dOp fAdd (dOp fIx (dOp fIx (dVar 3) (dVar 4)) (dC (.int 0))) (dOp fIx (dOp fIx (dVar 3) (dVar 4)) (dC (.int 1)))) (dCons (dOp fAdd (dOp fIx (dOp fIx (dVar 3) (dOp fAdd (dVar 4) (dC (.int 1)))) (dC (.int 0))) (dOp fIx (dOp fIx (dVar 3) (dOp fAdd (dVar 4) (dC (.int 1)))) (dC (.int 1)))) (dNil)))) [4]))
def f__law_ends : DF := runF 5 d__law_ends
def d__law_gcd : DS := dSeq (dWhile (asB (dOp fGt (dVar 1) (dC (.int 0)))) (dPar 0 1 (dCons (dVar 1) (dCons (dOp fMod (dApp fInt (dCons (dVar 0) (dNil))) (dVar 1)) (dNil))))) (dRet (dVar 0))
def f__law_gcd : DF := runF 2 d__law_gcd
def d__law_part : DS := dSeq (dAsg (dCall 2 f__law_gcd (dCons (dVar 0) (dCons (dVar 1) (dNil)))) (gN 2)) (dRet (dTup (dCons (dOp fDiv (dVar 0) (dVar 2)) (dCons (dOp fDiv (dVar 1) (dVar 2)) (dNil)))))
def f__law_part : DF := runF 3 d__law_part
def d__law_parts : DS := dSeq (dAsg (dTup (dCons (dCall 3 f__law_rows (dCons (dVar 0) (dCons (dVar 1) (dCons (dVar 2) (dNil))))) (dCons (dCall 3 (gL needsF) (dCons (dVar 0) (dCons (dVar 1) (dCons (dVar 2) (dNil))))) (dNil)))) (gT 2 (gsC (gN 3) (gsC (gN 4) (gsN))))) (dRet (dLc (diRng1 (dCons (dVar 2) (dNil))) (gcN 5) (dYes) (dCall 2 f__law_part (dCons (dOp fIx (dVar 4) (dVar 5)) (dCons (dOp fIx (dOp fIx (dVar 3) (dOp fAdd (dVar 5) (dC (.int 1)))) (dC (.int 1))) (dNil)))) [5]))
def f__law_parts : DF := runF 6 d__law_parts
def d__law_case_right : DS := dSeq (dAsg (dTup (dCons (dCall 3 (gL needsF) (dCons (dVar 0) (dCons (dVar 1) (dCons (dVar 2) (dNil))))) (dCons (dCall 3 f__law_rows (dCons (dVar 0) (dCons (dVar 1) (dCons (dVar 2) (dNil))))) (dNil)))) (gT 2 (gsC (gN 7) (gsC (gN 8) (gsN))))) (dSeq (dAsg (dLst (dCons (dCall 3 (gV cellsF) (dCons (dVar 0) (dCons (dVar 1) (dCons (dVar 2) (dNil))))) (dCons (dCall 3 (gV markF) (dCons (dVar 0) (dCons (dVar 1) (dCons (dVar 2) (dNil))))) (dCons (dCall 3 (gV sharesF) (dCons (dVar 0) (dCons (dVar 1) (dCons (dC (.int 6)) (dNil))))) (dCons (dCall 3 (gV backsF) (dCons (dVar 0) (dCons (dVar 1) (dCons (dVar 2) (dNil))))) (dNil)))))) (gN 3)) (dSeq (dAsg (dLst (dCons (dOp fIx (dVar 7) (dUn fNeg (dC (.int 1)))) (dCons (dApp fMax (dCons (dVar 7) (dNil))) (dCons (dApp fTuple (dCons (dCall 3 (gL partsF) (dCons (dVar 0) (dCons (dVar 1) (dCons (dC (.int 6)) (dNil))))) (dNil))) (dCons (dApp fTuple (dCons (dLc (diSeq (dSl (dVar 8) (dPart (dC (.int 1))) (dNoPart))) (gcN 10) (dYes) (dOp fEq (dOp fIx (dVar 10) (dC (.int 0))) (dC (.int 0))) [10]) (dNil))) (dNil)))))) (gN 4)) (dSeq (dAsg (dApp fTuple (dCons (dLc (diSeq (dSl (dVar 8) (dPart (dC (.int 1))) (dPart (dC (.int 13))))) (gcN 10) (dYes) (dOp fIx (dVar 10) (dC (.int 0))) [10]) (dNil))) (gN 5)) (dSeq (dAsg (dLc (diRng1 (dCons (dC (.int 12)) (dNil))) (gcN 9) (dYes) (dIf (asB (dOp fEq (dOp fIx (dVar 5) (dVar 9)) (dC (.int 0)))) (dC .non) (dOp fIx (dOp fIx (dVar 8) (dVar 9)) (dC (.int 1)))) [9]) (gN 6)) (dRet (dCall 2 (gA sameF) (dCons (dOp fAdd (dVar 3) (dLst (dCons (dCall 2 (gV readF) (dCons (dVar 0) (dCons (dVar 5) (dNil)))) (dCons (dCall 1 (gV sizesRF) (dCons (dVar 5) (dNil))) (dCons (dCall 3 (gV partF) (dCons (dVar 0) (dCons (dVar 0) (dCons (dVar 1) (dNil))))) (dNil)))))) (dCons (dOp fAdd (dVar 4) (dLst (dCons (dC (.bl true)) (dCons (dApp fTuple (dCons (dVar 6) (dNil))) (dCons (dC .non) (dNil)))))) (dNil)))))))))
def f__law_case_right : DF := runF 11 d__law_case_right
def d__law_by_hand_right : DS := dSeq (dAsg (dOp fPow (dC (.int 10)) (dC (.int 40))) (gN 0)) (dSeq (dFor (diSeq (dTup (dCons (dTup (dCons (dC (.int 3)) (dCons (dC (.int 2)) (dCons (dC (.int 0)) (dNil))))) (dCons (dTup (dCons (dC (.int 5)) (dCons (dC (.int 4)) (dCons (dVar 0) (dNil))))) (dCons (dTup (dCons (dC (.int 60)) (dCons (dC (.int 59)) (dCons (dC (.int 0)) (dNil))))) (dCons (dTup (dCons (dC (.int 60)) (dCons (dC (.int 1)) (dCons (dC (.int 7)) (dNil))))) (dCons (dTup (dCons (dC (.int 1)) (dCons (dC (.int 1)) (dCons (dVar 0) (dNil))))) (dCons (dTup (dCons (dC (.int 55)) (dCons (dC (.int 34)) (dCons (dC (.int 1)) (dNil))))) (dCons (dTup (dCons (dC (.int 6)) (dCons (dC (.int 4)) (dCons (dC (.int 9)) (dNil))))) (dNil)))))))))) (gN 1) (dIfS (dNotB (dTru (dCall 3 (gV caseF) (dCons (dVar 1) (dCons (dVar 0) (dCons (dC (.int 60)) (dNil))))))) (dRet (dC (.bl false))) (dSkip))) (dSeq (dAsg (dOp fPow (dC (.int 2)) (dC (.int 40))) (gN 2)) (dSeq (dAsg (dLst (dCons (dCall 3 f_share (dCons (dTup (dCons (dC (.int 3)) (dCons (dC (.int 2)) (dCons (dC (.int 0)) (dNil))))) (dCons (dVar 2) (dCons (dC (.int 4)) (dNil))))) (dCons (dCall 3 f_greatest_share (dCons (dTup (dCons (dC (.int 3)) (dCons (dC (.int 2)) (dCons (dC (.int 0)) (dNil))))) (dCons (dVar 2) (dCons (dC (.int 9)) (dNil))))) (dCons (dCall 3 f_share (dCons (dTup (dCons (dC (.int 3)) (dCons (dC (.int 2)) (dCons (dC (.int 0)) (dNil))))) (dCons (dVar 2) (dCons (dC (.int 9)) (dNil))))) (dCons (dCall 3 f_share (dCons (dTup (dCons (dC (.int 5)) (dCons (dC (.int 4)) (dCons (dC (.int 0)) (dNil))))) (dCons (dVar 2) (dCons (dC (.int 2)) (dNil))))) (dCons (dCall 3 f_share (dCons (dTup (dCons (dC (.int 2)) (dCons (dC (.int 1)) (dCons (dC (.int 0)) (dNil))))) (dCons (dVar 2) (dCons (dC (.int 60)) (dNil))))) (dNil))))))) (gN 3)) (dSeq (dAsg (dLst (dCons (dTup (dCons (dC (.int 211)) (dCons (dC (.int 81)) (dNil)))) (dCons (dTup (dCons (dC (.int 4)) (dCons (dTup (dCons (dC (.int 211)) (dCons (dC (.int 81)) (dNil)))) (dNil)))) (dCons (dTup (dCons (dC (.int 211)) (dCons (dC (.int 81)) (dNil)))) (dCons (dTup (dCons (dC (.int 61)) (dCons (dC (.int 25)) (dNil)))) (dCons (dTup (dCons (dOp fSub (dOp fPow (dC (.int 2)) (dC (.int 61))) (dC (.int 1))) (dCons (dOp fPow (dC (.int 2)) (dC (.int 60))) (dNil)))) (dNil))))))) (gN 4)) (dRet (dCall 2 (gA sameF) (dCons (dVar 3) (dCons (dVar 4) (dNil)))))))))
def f__law_by_hand_right : DF := runF 5 d__law_by_hand_right
def d__law_right : DS := dSeq (dFor (diRng1 (dCons (dC (.int 6)) (dNil))) (gN 1) (dSeq (dAsg (dCall 3 f__law_kin (dCons (dVar 0) (dCons (dC (.int 60)) (dCons (dCall 2 f__law_of (dCons (dVar 0) (dCons (dLst (dCons (dC (.int 0)) (dCons (dC (.int 9)) (dCons (dOp fPow (dC (.int 10)) (dC (.int 39))) (dNil))))) (dNil)))) (dNil))))) (gN 2)) (dSeq (dAsg (dOp fAdd (dOp fPow (dC (.int 10)) (dC (.int 39))) (dCall 2 f__law_take (dCons (dVar 0) (dCons (dOp fPow (dC (.int 10)) (dC (.int 18))) (dNil))))) (gN 3)) (dIfS (dNotB (dTru (dCall 3 (gV caseF) (dCons (dVar 2) (dCons (dVar 3) (dCons (dC (.int 24)) (dNil))))))) (dRet (dC (.bl false))) (dSkip))))) (dRet (dC (.bl true)))
def f__law_right : DF := runF 4 d__law_right
def d_law : DS := dSeq (dIfS (dNotB (dTru (dCall 0 (gV handF) dNil))) (dRet (dC (.bl false))) (dSkip)) (dSeq (dAsg (dCall 2 f__law_cells (dCons (dVar 0) (dCons (dC (.int 3)) (dNil)))) (gN 1)) (dSeq (dFor (diRng1 (dCons (dApp fLen (dCons (dVar 1) (dNil))) (dNil))) (gN 2) (dSeq (dAsg (dCall 2 f__law_box (dCons (dVar 1) (dCons (dVar 2) (dNil)))) (gN 3)) (dIfS (dOrB (dNotB (dTru (dCall 1 f__law_right (dCons (dVar 3) (dNil))))) (dNotB (dTru (dCall 1 f__law_right (dCons (dVar 3) (dNil)))))) (dRet (dC (.bl false))) (dSkip)))) (dRet (dC (.bl true)))))
def f_law : DF := runF 4 d_law
end GB
set_option Elab.async false
set_option linter.all false
set_option maxRecDepth 100000
set_option maxHeartbeats 2000000
namespace GB
open PySem L2
/-! ### the law's own small defs -/
/-- the source of draws: n bounds its count -/
def UOk (n : Nat) (u : List PV) : Prop := ∃ a b c : Int, u = [.int a, .int b, .int c] ∧ 0 ≤ a ∧ 0 ≤ b ∧ b < 9223372036854775808 ∧ 0 ≤ c ∧ c ≤ n
theorem UOk.mono {n m : Nat} {u : List PV} (h : UOk n u) (hm : n ≤ m) : UOk m u := by
  obtain ⟨a, b, c, e, h1, h2, h3, h4, h5⟩ := h
  exact ⟨a, b, c, e, h1, h2, h3, h4, by omega⟩
@[simp] theorem ixN30 : ixN 3 0 = some 0 := by decide
@[simp] theorem ixN32 : ixN 3 2 = some 2 := by decide
theorem take_ok {μ : Mu} {l : Nat} {u : List PV} {n : Nat} {t : Int} (hM : getM μ l = some u) (hu : UOk n u) (hn : n < 1000000000) (ht : 0 < t) (ht2 : t.natAbs < 18446744073709551616) :
    ∃ v u', f__law_take [.ref l, .int t] μ = .ok (.int v) (μ.set l (.lst u')) ∧ 0 ≤ v ∧ v < t ∧ UOk (n + 1) u' := by
  obtain ⟨a, b, c, rfl, ha, hb, hb2, hc, hc2⟩ := hu
  have gL := getL_of_M hM
  have gS : ∀ u', getL (μ.set l (.lst u')) l = some u' := fun u' => getL_set hM
  by_cases h0 : 0 < a
  · refine ⟨a % t, [.int (a / t), .int b, .int c], ?_, Int.emod_nonneg _ (by omega), Int.emod_lt_of_pos _ ht, _, _, _, rfl, Int.ediv_nonneg ha (by omega), hb, hb2, hc, by omega⟩
    simp [f__law_take, d__law_take, runF_, fIx_ref gL, h0, fMod_ok ht, fDiv_ok ht ht2, subSet_ok (k := 0) (j := 0) hM ixN30]
  · have e1 : ∀ x : Int, fIx (.ref l) (.int 0) (μ.set l (.lst [.int a, .int b, .int x])) = .ok (.int a) (μ.set l (.lst [.int a, .int b, .int x])) := fun x => fIx_ref (gS _) atI_0
    have e2 : ∀ x : Int, fIx (.ref l) (.int 1) (μ.set l (.lst [.int a, .int b, .int x])) = .ok (.int b) (μ.set l (.lst [.int a, .int b, .int x])) := fun x => fIx_ref (gS _) atI_1
    have e3 : ∀ x : Int, fIx (.ref l) (.int 2) (μ.set l (.lst [.int a, .int b, .int x])) = .ok (.int x) (μ.set l (.lst [.int a, .int b, .int x])) := fun x => fIx_ref (gS _) atI_2
    have m1 : ∀ i : Int, fMulI (.int 48271) (.int i) (μ.set l (.lst [.int a, .int b, .int (c + 1)])) = .ok (.int (48271 * i)) (μ.set l (.lst [.int a, .int b, .int (c + 1)])) := fun i => fMul_l (by decide)
    have m2 : ∀ i : Int, fMulI (.int i) (.int 48271) (μ.set l (.lst [.int a, .int b, .int (c + 1)])) = .ok (.int (i * 48271)) (μ.set l (.lst [.int a, .int b, .int (c + 1)])) := fun i => fMul_r (by decide)
    have m3 : ∀ i : Int, fMulI (.int i) (.int (39373 + (c + 1))) (μ.set l (.lst [.int a, .int b, .int (c + 1)])) = .ok (.int (i * (39373 + (c + 1)))) (μ.set l (.lst [.int a, .int b, .int (c + 1)])) := fun i => fMul_r (by omega)
    have m4 : ∀ i j : Int, fMulI (.int i) (.int (j % 40009 + 7)) (μ.set l (.lst [.int a, .int b, .int (c + 1)])) = .ok (.int (i * (j % 40009 + 7))) (μ.set l (.lst [.int a, .int b, .int (c + 1)])) := fun i j => fMul_r (by
      have := Int.emod_nonneg j (show (40009 : Int) ≠ 0 by decide)
      have := Int.emod_lt_of_pos j (show (0 : Int) < 40009 by decide)
      omega)
    refine ⟨(((((b + 48271 * (c + 1)) * (39373 + (c + 1)) % 2147483647 + (c + 1) + b / 1000003) * ((b + 48271 * (c + 1)) * (39373 + (c + 1)) % 2147483647 % 40009 + 7)) % 2147483629 * 48271 + (b + 48271 * (c + 1)) * (39373 + (c + 1)) % 2147483647) % 2147483587 / 64) % t, [.int a, .int b, .int (c + 1)], ?_, Int.emod_nonneg _ (by omega), Int.emod_lt_of_pos _ ht, _, _, _, rfl, ha, hb, hb2, by omega, by omega⟩
    simp [f__law_take, d__law_take, runF_, fIx_ref gL, h0, subSet_ok (k := 2) (j := 2) hM ixN32, e1, e2, e3, m1, m2, m3, m4, fMod_ok (show (0 : Int) < 2147483647 by decide), fMod_ok (show (0 : Int) < 40009 by decide), fMod_ok (show (0 : Int) < 2147483629 by decide), fMod_ok (show (0 : Int) < 2147483587 by decide), fMod_ok ht,
        fDiv_ok (show (0 : Int) < 1000003 by decide) (by decide), fDiv_ok (show (0 : Int) < 64 by decide) (by decide)]
end GB
set_option Elab.async false
set_option linter.all false
set_option maxRecDepth 100000
set_option maxHeartbeats 4000000
namespace GB
open PySem PySem.Spec PyProof.Rows L2
end GB
set_option Elab.async false
set_option linter.all false
set_option maxRecDepth 100000
set_option maxHeartbeats 2000000
namespace GB
open PySem L2
theorem of_ok {μ : Mu} {l m : Nat} {u xs : List PV} {n : Nat} (hM : getM μ l = some u) (hu : UOk n u) (hn : n < 1000000000) (hm : getL μ m = some xs) (hlm : l ≠ m) (hx : 0 < xs.length) (hx2 : xs.length < 1000000) :
    ∃ x u', f__law_of [.ref l, .ref m] μ = .ok x (μ.set l (.lst u')) ∧ x ∈ xs ∧ UOk (n + 1) u' := by
  obtain ⟨v, u', e, h0, h1, h2⟩ := take_ok (t := xs.length) hM hu hn (by omega) (by omega)
  have hv : v.toNat < xs.length := by omega
  have hm2 : getL (μ.set l (.lst u')) m = some xs := by rw [getL_set_ne hlm]; exact hm
  have ha : atI xs v = some xs[v.toNat] := by
    have := atI_nat (List.getElem?_eq_getElem hv)
    rw [Int.toNat_of_nonneg h0] at this
    exact this
  refine ⟨xs[v.toNat], u', ?_, List.getElem_mem hv, h2⟩
  simp [f__law_of, d__law_of, runF_, fLen_ref hm, e, fIx_ref hm2 ha]
end GB
set_option Elab.async false
set_option linter.all false
set_option maxRecDepth 100000
set_option maxHeartbeats 4000000
namespace GB
open PySem PySem.Spec PyProof.Rows L2
end GB
set_option Elab.async false
set_option linter.all false
set_option maxRecDepth 100000
set_option maxHeartbeats 2000000
namespace GB
open PySem L2
abbrev rl (p q c : Int) : PV := .tup [.int p, .int q, .int c]
/-- a RULE with p and q up to 10 ^ 6 -/
structure Rk (p q c : Int) : Prop where
  q1 : 1 ≤ q
  pq : q ≤ p
  p2 : p ≤ 1000000
  c0 : 0 ≤ c
  c1 : p = q → 1 ≤ c
theorem Rk.ps {p q c : Int} (h : Rk p q c) : p.natAbs < 18446744073709551616 := by have := h.q1; have := h.pq; have := h.p2; omega
theorem Rk.qs {p q c : Int} (h : Rk p q c) : q.natAbs < 18446744073709551616 := by have := h.q1; have := h.pq; have := h.p2; omega
theorem Rk.q0 {p q c : Int} (h : Rk p q c) : 0 < q := h.q1
theorem nxt_q {p q c : Int} (h : Rk p q c) : q < nxt p q c q := by
  unfold nxt
  have h1 := h.q1
  have h2 := h.pq
  have h3 := h.c0
  rw [Int.mul_ediv_cancel _ (by omega)]
  by_cases e : p = q
  · have := h.c1 e; omega
  · omega
theorem nxt_up {p q c a : Int} (h : Rk p q c) : nxt p q c a + 1 ≤ nxt p q c (a + 1) := by
  unfold nxt
  have h1 := h.q1
  have h2 := h.pq
  have e : p * (a + 1) = p * a + p := by rw [Int.mul_add, Int.mul_one]
  rw [e]
  have : p * a / q + 1 ≤ (p * a + p) / q := by
    rw [← Int.add_mul_ediv_right _ _ (show q ≠ 0 by omega), Int.one_mul]
    exact Int.ediv_le_ediv (by omega) (by omega)
  omega
/-- a START stays one upwards -/
theorem start_up {p q c m : Int} (h : Rk p q c) (hm : m < nxt p q c m) : ∀ k : Nat, m + k < nxt p q c (m + k)
  | 0 => by simpa using hm
  | k + 1 => by
    have := start_up h hm k
    have := nxt_up (a := m + k) h
    have e : m + ((k + 1 : Nat) : Int) = m + k + 1 := by omega
    rw [e]; omega
theorem start_ge {p q c m a : Int} (h : Rk p q c) (hm : m < nxt p q c m) (ha : m ≤ a) : a < nxt p q c a := by
  have := start_up h hm (a - m).toNat
  rwa [show m + ((a - m).toNat : Int) = a by omega] at this
end GB
set_option Elab.async false
set_option linter.all false
set_option maxRecDepth 100000
set_option maxHeartbeats 4000000
namespace GB
open PySem PySem.Spec PyProof.Rows L2
end GB
set_option Elab.async false
set_option linter.all false
set_option maxRecDepth 100000
set_option maxHeartbeats 2000000
namespace GB
open PySem L2
theorem kin_ok {μ : Mu} {l : Nat} {u : List PV} {n : Nat} {t m : Int} (hM : getM μ l = some u) (hu : UOk n u) (hn : n < 900000000) (ht : 1 ≤ t) (ht2 : t ≤ 1000) (hm : 0 ≤ m) (hm2 : m < 1000000000000000000) :
    ∃ p q c u', f__law_kin [.ref l, .int t, .int m] μ = .ok (rl p q c) (μ.set l (.lst u')) ∧ Rk p q c ∧ p ≤ t ∧ c ≤ m + 1 ∧ UOk (n + 3) u' := by
  obtain ⟨v1, u1, e1, a1, b1, o1⟩ := take_ok (t := t) hM hu (by omega) (by omega) (by omega)
  obtain ⟨v2, u2, e2, a2, b2, o2⟩ := take_ok (t := t + 1 - (1 + v1)) (getM_set hM) o1 (by omega) (by omega) (by omega)
  obtain ⟨v3, u3, e3, a3, b3, o3⟩ := take_ok (t := m + 1) (getM_set (getM_set (u' := u1) hM)) o2 (by omega) (by omega) (by omega)
  have hs : ∀ x y : Ob, (μ.set l x).set l y = μ.set l y := fun x y => List.set_set x
  simp only [hs] at e2 e3
  by_cases hpq : 1 + v1 + v2 = 1 + v1
  · by_cases hv3 : v3 > 1
    · refine ⟨1 + v1 + v2, 1 + v1, v3, u3, ?_, ⟨by omega, by omega, by omega, by omega, fun _ => by omega⟩, by omega, by omega, o3⟩
      simp [f__law_kin, d__law_kin, runF_, e1, e2, e3, hpq, hv3]
    · refine ⟨1 + v1 + v2, 1 + v1, 1, u3, ?_, ⟨by omega, by omega, by omega, by omega, fun _ => by omega⟩, by omega, by omega, o3⟩
      simp [f__law_kin, d__law_kin, runF_, e1, e2, e3, hpq, hv3]
  · refine ⟨1 + v1 + v2, 1 + v1, v3, u3, ?_, ⟨by omega, by omega, by omega, by omega, fun h => absurd h hpq⟩, by omega, by omega, o3⟩
    simp [f__law_kin, d__law_kin, runF_, e1, e2, e3, hpq]
end GB
set_option Elab.async false
set_option linter.all false
set_option maxRecDepth 100000
set_option maxHeartbeats 4000000
namespace GB
open PySem PySem.Spec PyProof.Rows L2
end GB
set_option Elab.async false
set_option linter.all false
set_option maxRecDepth 100000
set_option maxHeartbeats 2000000
namespace GB
open PySem L2
theorem take_big {μ : Mu} {l : Nat} {u : List PV} {n : Nat} {t : Int} (hM : getM μ l = some u) (hu : UOk n u) (hn : n < 1000000000) (ht : 0 < t) {k : Nat} (ht2 : t.natAbs < 2 ^ k) (hk : 0 < k) (h9 : k ≤ 9000) :
    ∃ v u', f__law_take [.ref l, .int t] μ = .ok (.int v) (μ.set l (.lst u')) ∧ 0 ≤ v ∧ v < t ∧ UOk (n + 1) u' := by
  obtain ⟨a, b, c, rfl, ha, hb, hb2, hc, hc2⟩ := hu
  have gL := getL_of_M hM
  have gS : ∀ u', getL (μ.set l (.lst u')) l = some u' := fun u' => getL_set hM
  by_cases h0 : 0 < a
  · refine ⟨a % t, [.int (a / t), .int b, .int c], ?_, Int.emod_nonneg _ (by omega), Int.emod_lt_of_pos _ ht, _, _, _, rfl, Int.ediv_nonneg ha (by omega), hb, hb2, hc, by omega⟩
    simp [f__law_take, d__law_take, runF_, fIx_ref gL, h0, fMod_ok ht, fDiv_w ht ht2 hk h9, subSet_ok (k := 0) (j := 0) hM ixN30]
  · have e1 : ∀ x : Int, fIx (.ref l) (.int 0) (μ.set l (.lst [.int a, .int b, .int x])) = .ok (.int a) (μ.set l (.lst [.int a, .int b, .int x])) := fun x => fIx_ref (gS _) atI_0
    have e2 : ∀ x : Int, fIx (.ref l) (.int 1) (μ.set l (.lst [.int a, .int b, .int x])) = .ok (.int b) (μ.set l (.lst [.int a, .int b, .int x])) := fun x => fIx_ref (gS _) atI_1
    have e3 : ∀ x : Int, fIx (.ref l) (.int 2) (μ.set l (.lst [.int a, .int b, .int x])) = .ok (.int x) (μ.set l (.lst [.int a, .int b, .int x])) := fun x => fIx_ref (gS _) atI_2
    have m1 : ∀ i : Int, fMulI (.int 48271) (.int i) (μ.set l (.lst [.int a, .int b, .int (c + 1)])) = .ok (.int (48271 * i)) (μ.set l (.lst [.int a, .int b, .int (c + 1)])) := fun i => fMul_l (by decide)
    have m2 : ∀ i : Int, fMulI (.int i) (.int 48271) (μ.set l (.lst [.int a, .int b, .int (c + 1)])) = .ok (.int (i * 48271)) (μ.set l (.lst [.int a, .int b, .int (c + 1)])) := fun i => fMul_r (by decide)
    have m3 : ∀ i : Int, fMulI (.int i) (.int (39373 + (c + 1))) (μ.set l (.lst [.int a, .int b, .int (c + 1)])) = .ok (.int (i * (39373 + (c + 1)))) (μ.set l (.lst [.int a, .int b, .int (c + 1)])) := fun i => fMul_r (by omega)
    have m4 : ∀ i j : Int, fMulI (.int i) (.int (j % 40009 + 7)) (μ.set l (.lst [.int a, .int b, .int (c + 1)])) = .ok (.int (i * (j % 40009 + 7))) (μ.set l (.lst [.int a, .int b, .int (c + 1)])) := fun i j => fMul_r (by
      have := Int.emod_nonneg j (show (40009 : Int) ≠ 0 by decide)
      have := Int.emod_lt_of_pos j (show (0 : Int) < 40009 by decide)
      omega)
    refine ⟨(((((b + 48271 * (c + 1)) * (39373 + (c + 1)) % 2147483647 + (c + 1) + b / 1000003) * ((b + 48271 * (c + 1)) * (39373 + (c + 1)) % 2147483647 % 40009 + 7)) % 2147483629 * 48271 + (b + 48271 * (c + 1)) * (39373 + (c + 1)) % 2147483647) % 2147483587 / 64) % t, [.int a, .int b, .int (c + 1)], ?_, Int.emod_nonneg _ (by omega), Int.emod_lt_of_pos _ ht, _, _, _, rfl, ha, hb, hb2, by omega, by omega⟩
    simp [f__law_take, d__law_take, runF_, fIx_ref gL, h0, subSet_ok (k := 2) (j := 2) hM ixN32, e1, e2, e3, m1, m2, m3, m4, fMod_ok (show (0 : Int) < 2147483647 by decide), fMod_ok (show (0 : Int) < 40009 by decide), fMod_ok (show (0 : Int) < 2147483629 by decide), fMod_ok (show (0 : Int) < 2147483587 by decide), fMod_ok ht,
        fDiv_ok (show (0 : Int) < 1000003 by decide) (by decide), fDiv_ok (show (0 : Int) < 64 by decide) (by decide)]
theorem kin_big {μ : Mu} {l : Nat} {u : List PV} {n : Nat} {t m : Int} (hM : getM μ l = some u) (hu : UOk n u) (hn : n < 900000000) (ht : 1 ≤ t) (ht2 : t ≤ 1000) (hm : 0 ≤ m) (hm2 : m < 1000000000000000000000000000000000000000000) :
    ∃ p q c u', f__law_kin [.ref l, .int t, .int m] μ = .ok (rl p q c) (μ.set l (.lst u')) ∧ Rk p q c ∧ p ≤ t ∧ c ≤ m + 1 ∧ UOk (n + 3) u' := by
  obtain ⟨v1, u1, e1, a1, b1, o1⟩ := take_ok (t := t) hM hu (by omega) (by omega) (by omega)
  obtain ⟨v2, u2, e2, a2, b2, o2⟩ := take_ok (t := t + 1 - (1 + v1)) (getM_set hM) o1 (by omega) (by omega) (by omega)
  obtain ⟨v3, u3, e3, a3, b3, o3⟩ := take_big (k := 140) (t := m + 1) (getM_set (getM_set (u' := u1) hM)) o2 (by omega) (by omega) (by omega) (by decide) (by decide)
  have hs : ∀ x y : Ob, (μ.set l x).set l y = μ.set l y := fun x y => List.set_set x
  simp only [hs] at e2 e3
  by_cases hpq : 1 + v1 + v2 = 1 + v1
  · by_cases hv3 : v3 > 1
    · refine ⟨1 + v1 + v2, 1 + v1, v3, u3, ?_, ⟨by omega, by omega, by omega, by omega, fun _ => by omega⟩, by omega, by omega, o3⟩
      simp [f__law_kin, d__law_kin, runF_, e1, e2, e3, hpq, hv3]
    · refine ⟨1 + v1 + v2, 1 + v1, 1, u3, ?_, ⟨by omega, by omega, by omega, by omega, fun _ => by omega⟩, by omega, by omega, o3⟩
      simp [f__law_kin, d__law_kin, runF_, e1, e2, e3, hpq, hv3]
  · refine ⟨1 + v1 + v2, 1 + v1, v3, u3, ?_, ⟨by omega, by omega, by omega, by omega, fun h => absurd h hpq⟩, by omega, by omega, o3⟩
    simp [f__law_kin, d__law_kin, runF_, e1, e2, e3, hpq]
end GB
set_option Elab.async false
set_option linter.all false
set_option maxRecDepth 100000
set_option maxHeartbeats 4000000
namespace GB
open PySem PySem.Spec PyProof.Rows L2
end GB
set_option Elab.async false
set_option linter.all false
set_option maxRecDepth 100000
set_option maxHeartbeats 2000000
namespace GB
open PySem L2
def pairV (b : Int × Int) : PV := .tup [.int b.1, .int b.2]
def blks (p q c a : Int) (n : Nat) : List PV := (List.range (n + 1)).map fun k => pairV (blk p q c a k)
theorem blks_len (p q c a : Int) (n : Nat) : (blks p q c a n).length = n + 1 := by simp [blks]
theorem blks_succ (p q c a : Int) (n : Nat) : blks p q c a (n + 1) = blks p q c a n ++ [pairV (blk p q c a (n + 1))] := by
  unfold blks
  rw [List.range_succ, List.map_append]; rfl
theorem blks_last (p q c a : Int) (n : Nat) : atI (blks p q c a n) (-1) = some (pairV (blk p q c a n)) := by
  cases n with
  | zero => rfl
  | succ n => rw [blks_succ]; exact atI_last _ _
theorem blks_get (p q c a : Int) {n k : Nat} (h : k ≤ n) : (blks p q c a n)[k]? = some (pairV (blk p q c a k)) := by
  unfold blks
  rw [List.getElem?_map, List.getElem?_range (by omega)]; rfl
end GB
set_option Elab.async false
set_option linter.all false
set_option maxRecDepth 100000
set_option maxHeartbeats 4000000
namespace GB
open PySem PySem.Spec PyProof.Rows L2
end GB
set_option Elab.async false
set_option linter.all false
set_option maxRecDepth 100000
set_option maxHeartbeats 2000000
namespace GB
open PySem L2
theorem lrows_ok {p q c a : Int} {μ : Mu} (h : Rk p q c) {n : Nat} (hn : n < 10000000) : f__law_rows [rl p q c, .int a, .int n] μ = .ok (.ref μ.length) (μ ++ [.lst (blks p q c a n)]) := by
  unfold f__law_rows d__law_rows
  rw [runF_]
  simp
  rw [rng1_ok (by omega) (by omega)]
  simp
  generalize e : dForN (jRng 0 n) _ _ _ _ _ _ = o
  have key : ∃ x4 x5 x6 x7, o = .nx [some (rl p q c), some (.int a), some (.int n), some (.ref μ.length), x4, x5, x6, x7] (μ ++ [.lst (blks p q c a n)]) := by
    rw [← e]
    refine for_rng (n := n) (Inv := fun i ρ μ' => ∃ x4 x5 x6 x7, ρ = [some (rl p q c), some (.int a), some (.int n), some (.ref μ.length), x4, x5, x6, x7] ∧ μ' = μ ++ [.lst (blks p q c a i)])
      (Q := fun o => ∃ x4 x5 x6 x7, o = .nx [some (rl p q c), some (.int a), some (.int n), some (.ref μ.length), x4, x5, x6, x7] (μ ++ [.lst (blks p q c a n)])) (by unfold lid; omega) ⟨_, _, _, _, rfl, rfl⟩ ?_ ?_
    · rintro ρ μ' ⟨x4, x5, x6, x7, rfl, rfl⟩
      exact ⟨_, _, _, _, rfl⟩
    · rintro i ρ μ' hi ⟨x4, x5, x6, x7, rfl, rfl⟩
      refine ⟨_, _, rfl, ?_⟩
      have g := getL_last (μ := μ) (acc := blks p q c a i)
      have gm := getM_last (μ := μ) (acc := blks p q c a i)
      have hl : (blks p q c a i).length < 16777216 := by rw [blks_len]; omega
      have hd := fDiv_ok (μ := μ ++ [.lst (blks p q c a i)]) (i := p * (blk p q c a i).2) h.q0 h.qs
      by_cases hh : nxt p q c (blk p q c a i).2 ≤ (blk p q c a i).1
      · have hh' : p * (blk p q c a i).2 / q + c ≤ (blk p q c a i).1 := hh
        simp [fIx_ref g (blks_last p q c a i), pairV, fIx_tup0, fIx_tup1, fIx_tup2, fMul_l h.ps, hd, methL_ok g, fAppend_ok gm hl, set_last, blks_succ, blk, hh, hh']
        rfl
      · have hh' : ¬ p * (blk p q c a i).2 / q + c ≤ (blk p q c a i).1 := hh
        simp [fIx_ref g (blks_last p q c a i), pairV, fIx_tup0, fIx_tup1, fIx_tup2, fMul_l h.ps, hd, methL_ok g, fAppend_ok gm hl, set_last, blks_succ, blk, hh, hh']
        rfl
  obtain ⟨x4, x5, x6, x7, rfl⟩ := key
  simp
end GB
set_option Elab.async false
set_option linter.all false
set_option maxRecDepth 100000
set_option maxHeartbeats 4000000
namespace GB
open PySem PySem.Spec PyProof.Rows L2
end GB
set_option Elab.async false
set_option linter.all false
set_option maxRecDepth 100000
set_option maxHeartbeats 2000000
namespace GB
open PySem L2
theorem box_ok {μ : Mu} {m k : Nat} {xs : List Int} (hm : getL μ m = some (xs.map .int)) (hk : k < xs.length) (hx : xs.length ≤ 1000) :
    ∃ u, f__law_box [.ref m, .int k] μ = .ok (.ref μ.length) (μ ++ [.lst u]) ∧ UOk 0 u := by
  have hg : atI (xs.map PV.int) (k : Int) = some (.int xs[k]) := atI_nat (by rw [List.getElem?_map, List.getElem?_eq_getElem hk]; rfl)
  have hl : (k : Int) < (xs.map PV.int).length := by rw [List.length_map]; omega
  have h0 := Int.emod_nonneg xs[k] (show (2305843009213693951 : Int) ≠ 0 by decide)
  have h1 := Int.emod_lt_of_pos xs[k] (show (0 : Int) < 2305843009213693951 by decide)
  have hp : fPow (.int 10) (.int 18) μ = .ok (.int 1000000000000000000) μ := fPow_lit (by decide)
  have hlk : (k : Int) < xs.length := by omega
  by_cases hn : xs[k] < 0
  · by_cases hb : (1000000000000000000 : Int) ≤ -xs[k]
    · refine ⟨[.int (-xs[k]), .int (xs[k] % 2305843009213693951 + 39373 * k + 2993), .int 0], ?_, _, _, _, rfl, by omega, by omega, by omega, by omega, by omega⟩
      simp [f__law_box, d__law_box, runF_, fLen_ref hm, hlk, fIx_ref hm hg, hn, hp, hb, fMul_r (j := (1 : Int)) (by decide), fMod_ok (show (0 : Int) < 2305843009213693951 by decide), fMul_l (i := (39373 : Int)) (by decide)]
    · refine ⟨[.int 0, .int (xs[k] % 2305843009213693951 + 39373 * k + 2993), .int 0], ?_, _, _, _, rfl, by omega, by omega, by omega, by omega, by omega⟩
      simp [f__law_box, d__law_box, runF_, fLen_ref hm, hlk, fIx_ref hm hg, hn, hp, hb, fMul_r (j := (0 : Int)) (by decide), fMod_ok (show (0 : Int) < 2305843009213693951 by decide), fMul_l (i := (39373 : Int)) (by decide)]
  · by_cases hb : (1000000000000000000 : Int) ≤ xs[k]
    · refine ⟨[.int xs[k], .int (xs[k] % 2305843009213693951 + 39373 * k + 2993), .int 0], ?_, _, _, _, rfl, by omega, by omega, by omega, by omega, by omega⟩
      simp [f__law_box, d__law_box, runF_, fLen_ref hm, hlk, fIx_ref hm hg, hn, hp, hb, fMul_r (j := (1 : Int)) (by decide), fMod_ok (show (0 : Int) < 2305843009213693951 by decide), fMul_l (i := (39373 : Int)) (by decide)]
    · refine ⟨[.int 0, .int (xs[k] % 2305843009213693951 + 39373 * k + 2993), .int 0], ?_, _, _, _, rfl, by omega, by omega, by omega, by omega, by omega⟩
      simp [f__law_box, d__law_box, runF_, fLen_ref hm, hlk, fIx_ref hm hg, hn, hp, hb, fMul_r (j := (0 : Int)) (by decide), fMod_ok (show (0 : Int) < 2305843009213693951 by decide), fMul_l (i := (39373 : Int)) (by decide)]
end GB
set_option Elab.async false
set_option linter.all false
set_option maxRecDepth 100000
set_option maxHeartbeats 4000000
namespace GB
open PySem PySem.Spec PyProof.Rows L2
end GB
set_option Elab.async false
set_option linter.all false
set_option maxRecDepth 100000
set_option maxHeartbeats 2000000
namespace GB
open PySem L2
def gm (x y : Nat) : Nat := if y = 0 then 0 else 1 + (x.log2 + y.log2 + if x < y then 1 else 0)
theorem gm_lt {x y : Nat} (hy : 0 < y) : gm y (x % y) < gm x y := by
  have hm := Nat.mod_lt x hy
  unfold gm
  rw [if_neg (show ¬ y = 0 by omega)]
  by_cases h0 : x % y = 0
  · rw [if_pos h0]; omega
  · rw [if_neg h0, if_neg (show ¬ y < x % y by omega)]
    by_cases hxy : x < y
    · rw [if_pos hxy, Nat.mod_eq_of_lt hxy]; omega
    · rw [if_neg hxy]
      have hx : x ≠ 0 := by omega
      have h2 : 2 * (x % y) ≤ x := by
        have := Nat.div_add_mod x y
        have h1 : 1 ≤ x / y := (Nat.le_div_iff_mul_le hy).mpr (by omega)
        have : y * 1 ≤ y * (x / y) := Nat.mul_le_mul_left _ h1
        omega
      have h3 : (x % y).log2 + 1 ≤ x.log2 := by
        rw [Nat.le_log2 hx, Nat.pow_succ]
        have := Nat.log2_self_le h0
        omega
      omega
theorem gm_lid {x y k : Nat} (hx : x < 2 ^ k) (hy : y < 2 ^ k) (hk : 0 < k) (h9 : k ≤ 9000) : gm x y < lid := by
  have h1 := log2_lt hx hk
  have h2 := log2_lt hy hk
  clear hx hy
  unfold gm lid
  split
  · omega
  · split <;> omega
theorem gcd_step (x y : Nat) : Nat.gcd y (x % y) = Nat.gcd x y := by
  rw [Nat.gcd_comm y (x % y), ← Nat.gcd_rec y x, Nat.gcd_comm]
theorem fraction_eq {a b : Int} {k : Nat} {μ : Mu} (ha : 0 ≤ a) (hb : 0 < b) (ha2 : a.natAbs < 2 ^ k) (hb2 : b.natAbs < 2 ^ k) (hk : 0 < k) (h9 : k ≤ 9000) :
    f_fraction [.int a, .int b] μ = .ok (.tup [.int (a / Int.gcd a b), .int (b / Int.gcd a b)]) μ := by
  have hg0 : 0 < Int.gcd a b := Nat.gcd_pos_of_pos_right _ (by omega)
  have hg1 : Int.gcd a b < 2 ^ k := Nat.lt_of_le_of_lt (Nat.gcd_le_right _ (by omega)) hb2
  generalize e : dWhile (asB (dOp fNe (dVar 3) (dC (.int 0)))) (dPar 2 3 (dCons (dVar 3) (dCons (dOp fMod (dVar 2) (dVar 3)) (dNil)))) [some (.int a), some (.int b), some (.int a), some (.int b)] μ = o
  have key : o = .nx [some (.int a), some (.int b), some (.int (Int.gcd a b)), some (.int 0)] μ := by
    rw [← e, dWhile_]
    refine while_gen (Inv := fun ρ μ' => μ' = μ ∧ ∃ x y : Nat, ρ = [some (.int a), some (.int b), some (.int x), some (.int y)] ∧ Nat.gcd x y = Int.gcd a b)
      (fun ρ _ => match ρ with | [_, _, some (.int x), some (.int y)] => gm x.natAbs y.natAbs | _ => 0)
      (Q := fun o => o = .nx [some (.int a), some (.int b), some (.int (Int.gcd a b)), some (.int 0)] μ) (gm_lid ha2 hb2 hk h9) ⟨rfl, a.natAbs, b.natAbs, by rw [Int.natAbs_of_nonneg ha, Int.natAbs_of_nonneg (Int.le_of_lt hb)], rfl⟩ ?_
    rintro ρ μ' ⟨rfl, x, y, rfl, hxy⟩
    refine ⟨!decide ((y : Int) = 0), μ', by simp, ?_⟩
    by_cases hy : y = 0
    · subst hy
      rw [Nat.gcd_zero_right] at hxy
      simp [hxy]
    · have hy0 : ¬ (y : Int) = 0 := by omega
      have hmod := fMod_ok (μ := μ') (i := (x : Int)) (show (0 : Int) < y by omega)
      simp only [decide_eq_false hy0, Bool.not_false, if_true]
      simp only [dPar_, dCons_, dNil_, dOp_, dVar_3, dVar_2, R.bind_ok, hmod, R.thn_ok, par2_, List.set_cons_succ, List.set_cons_zero, turnTo_nx]
      refine ⟨⟨trivial, y, x % y, rfl, by rw [gcd_step]; exact hxy⟩, gm_lt (by omega)⟩
  subst key
  have h1 : fDiv (.int a) (.int (Int.gcd a b)) μ = .ok (.int (a / Int.gcd a b)) μ := fDiv_w (k := k) (by omega) (by simpa using hg1) hk h9
  have h2 : fDiv (.int b) (.int (Int.gcd a b)) μ = .ok (.int (b / Int.gcd a b)) μ := fDiv_w (k := k) (by omega) (by simpa using hg1) hk h9
  have hna : ¬ a < 0 := by omega
  simp [f_fraction, d_fraction, runF_, -dWhile_, hna, e, h1, h2]
theorem lgcd_eq {a b : Int} {k : Nat} {μ : Mu} (ha : 0 ≤ a) (hb : 0 < b) (ha2 : a.natAbs < 2 ^ k) (hb2 : b.natAbs < 2 ^ k) (hk : 0 < k) (h9 : k ≤ 9000) :
    f__law_gcd [.int a, .int b] μ = .ok (.int (Int.gcd a b)) μ := by
  generalize e : dWhile (asB (dOp fGt (dVar 1) (dC (.int 0)))) (dPar 0 1 (dCons (dVar 1) (dCons (dOp fMod (dApp fInt (dCons (dVar 0) (dNil))) (dVar 1)) (dNil)))) [some (.int a), some (.int b)] μ = o
  have key : o = .nx [some (.int (Int.gcd a b)), some (.int 0)] μ := by
    rw [← e, dWhile_]
    refine while_gen (Inv := fun ρ μ' => μ' = μ ∧ ∃ x y : Nat, ρ = [some (.int x), some (.int y)] ∧ Nat.gcd x y = Int.gcd a b)
      (fun ρ _ => match ρ with | [some (.int x), some (.int y)] => gm x.natAbs y.natAbs | _ => 0)
      (Q := fun o => o = .nx [some (.int (Int.gcd a b)), some (.int 0)] μ) (gm_lid ha2 hb2 hk h9) ⟨rfl, a.natAbs, b.natAbs, by rw [Int.natAbs_of_nonneg ha, Int.natAbs_of_nonneg (Int.le_of_lt hb)], rfl⟩ ?_
    rintro ρ μ' ⟨rfl, x, y, rfl, hxy⟩
    refine ⟨decide ((y : Int) > 0), μ', by simp, ?_⟩
    by_cases hy : y = 0
    · subst hy
      rw [Nat.gcd_zero_right] at hxy
      simp [hxy]
    · have hy0 : (y : Int) > 0 := by omega
      have hmod := fMod_ok (μ := μ') (i := (x : Int)) (show (0 : Int) < y by omega)
      simp only [decide_eq_true hy0, if_true]
      simp only [dPar_, dCons_, dNil_, dOp_, dApp_, dVar_0, dVar_1, R.bind_ok, fInt_int, hmod, R.thn_ok, par2_, List.set_cons_succ, List.set_cons_zero, turnTo_nx]
      refine ⟨⟨trivial, y, x % y, rfl, by rw [gcd_step]; exact hxy⟩, gm_lt (by omega)⟩
  subst key
  simp [f__law_gcd, d__law_gcd, runF_, -dWhile_, e]
theorem lpart_eq {a b : Int} {k : Nat} {μ : Mu} (ha : 0 ≤ a) (hb : 0 < b) (ha2 : a.natAbs < 2 ^ k) (hb2 : b.natAbs < 2 ^ k) (hk : 0 < k) (h9 : k ≤ 9000) :
    f__law_part [.int a, .int b] μ = .ok (.tup [.int (a / Int.gcd a b), .int (b / Int.gcd a b)]) μ := by
  have hg0 : 0 < Int.gcd a b := Nat.gcd_pos_of_pos_right _ (by omega)
  have hg1 : Int.gcd a b < 2 ^ k := Nat.lt_of_le_of_lt (Nat.gcd_le_right _ (by omega)) hb2
  have h1 : fDiv (.int a) (.int (Int.gcd a b)) μ = .ok (.int (a / Int.gcd a b)) μ := fDiv_w (k := k) (by omega) (by simpa using hg1) hk h9
  have h2 : fDiv (.int b) (.int (Int.gcd a b)) μ = .ok (.int (b / Int.gcd a b)) μ := fDiv_w (k := k) (by omega) (by simpa using hg1) hk h9
  simp [f__law_part, d__law_part, runF_, lgcd_eq ha hb ha2 hb2 hk h9, h1, h2]
end GB
set_option Elab.async false
set_option linter.all false
set_option maxRecDepth 100000
set_option maxHeartbeats 4000000
namespace GB
open PySem PySem.Spec PyProof.Rows L2
end GB
set_option Elab.async false
set_option linter.all false
set_option maxRecDepth 100000
set_option maxHeartbeats 2000000
namespace GB
open PySem L2
theorem ipow_le {a b : Int} (h0 : 0 ≤ a) (h : a ≤ b) : ∀ m : Nat, a ^ m ≤ b ^ m
  | 0 => by simp
  | m + 1 => by
    rw [Int.pow_succ, Int.pow_succ]
    have := Int.mul_le_mul_of_nonneg_right (ipow_le h0 h m) h0
    have := Int.mul_le_mul_of_nonneg_left h (show (0 : Int) ≤ b ^ m from Int.pow_nonneg (by omega))
    omega
theorem ipow_mono {a b : Nat} (h : a ≤ b) : (2 : Int) ^ a ≤ 2 ^ b := by
  obtain ⟨d, rfl⟩ := Nat.exists_eq_add_of_le h
  rw [Int.pow_add]
  have : (1 : Int) ≤ 2 ^ d := Int.pow_pos (by decide)
  have := Int.mul_le_mul_of_nonneg_left this (show (0 : Int) ≤ 2 ^ a from Int.pow_nonneg (by decide))
  omega
theorem nat_lt {x : Int} {k : Nat} (h0 : 0 ≤ x) (h : x < (2 : Int) ^ k) : x.natAbs < 2 ^ k := by
  have h2 : (((2 : Nat) ^ k : Nat) : Int) = (2 : Int) ^ k := by rw [Int.natCast_pow]; rfl
  omega
end GB
set_option Elab.async false
set_option linter.all false
set_option maxRecDepth 100000
set_option maxHeartbeats 4000000
namespace GB
open PySem PySem.Spec PyProof.Rows L2
end GB
set_option Elab.async false
set_option linter.all false
set_option maxRecDepth 100000
set_option maxHeartbeats 2000000
namespace GB
open PySem L2
theorem next_eq {p q c a : Int} {μ : Mu} (h : Rk p q c) : f_next_size [rl p q c, .int a] μ = .ok (.int (nxt p q c a)) μ := by
  simp [f_next_size, d_next_size, runF_, fMul_l h.ps, fDiv_ok h.q0 h.qs, nxt]
theorem isnum_eq {a : Int} {μ : Mu} : f_is_number [.int a] μ = .ok (.bl true) μ := by
  simp [f_is_number, d_is_number, runF]
theorem start_eq {p q c a : Int} {μ : Mu} (h : Rk p q c) (h1 : 1 ≤ a) (h2 : a < nxt p q c a) : f_is_start [rl p q c, .int a] μ = .ok (.bl true) μ := by
  simp [f_is_start, d_is_start, runF_, isnum_eq, next_eq h, h1, h2]
theorem check_eq {p q c a : Int} {μ : Mu} (h : Rk p q c) (h1 : 1 ≤ a) (h2 : a < nxt p q c a) : f_check_start [rl p q c, .int a] μ = .ok .non μ := by
  simp [f_check_start, d_check_start, runF_, start_eq h h1 h2]
theorem along_eq {p q c a : Int} {μ : Mu} (h : Rk p q c) (h1 : 1 ≤ a) (h2 : a < nxt p q c a) {n : Nat} (hn : n < 10000000) : f_blocks_along [rl p q c, .int a, .int n] μ = .ok (.ref μ.length) (μ ++ [.lst (blks p q c a n)]) := by
  unfold f_blocks_along d_blocks_along
  rw [runF_]
  simp [check_eq h h1 h2]
  rw [rng1_ok (by omega) (by omega)]
  simp
  generalize e : dForN (jRng 0 n) _ _ _ _ _ _ = o
  have key : ∃ x4 x5 x6 x7, o = .nx [some (rl p q c), some (.int a), some (.int n), some (.ref μ.length), x4, x5, x6, x7] (μ ++ [.lst (blks p q c a n)]) := by
    rw [← e]
    refine for_rng (n := n) (Inv := fun i ρ μ' => ∃ x4 x5 x6 x7, ρ = [some (rl p q c), some (.int a), some (.int n), some (.ref μ.length), x4, x5, x6, x7] ∧ μ' = μ ++ [.lst (blks p q c a i)])
      (Q := fun o => ∃ x4 x5 x6 x7, o = .nx [some (rl p q c), some (.int a), some (.int n), some (.ref μ.length), x4, x5, x6, x7] (μ ++ [.lst (blks p q c a n)])) (by unfold lid; omega) ⟨_, _, _, _, rfl, rfl⟩ ?_ ?_
    · rintro ρ μ' ⟨x4, x5, x6, x7, rfl, rfl⟩
      exact ⟨_, _, _, _, rfl⟩
    · rintro i ρ μ' hi ⟨x4, x5, x6, x7, rfl, rfl⟩
      refine ⟨_, _, rfl, ?_⟩
      have g := getL_last (μ := μ) (acc := blks p q c a i)
      have gm := getM_last (μ := μ) (acc := blks p q c a i)
      have hl : (blks p q c a i).length < 16777216 := by rw [blks_len]; omega
      by_cases hh : nxt p q c (blk p q c a i).2 ≤ (blk p q c a i).1 <;> simp [fIx_ref g (blks_last p q c a i), pairV, next_eq h, methL_ok g, fAppend_ok gm hl, set_last, blks_succ, blk, hh]
  obtain ⟨x4, x5, x6, x7, rfl⟩ := key
  simp
theorem blk_S (p q c a : Int) (k : Nat) : blk p q c a (k + 1) = if nxt p q c (blk p q c a k).2 ≤ (blk p q c a k).1 then (0, nxt p q c (blk p q c a k).2) else ((blk p q c a k).1 + (blk p q c a k).2, nxt p q c (blk p q c a k).2) := rfl
theorem blk_snd (p q c a : Int) (k : Nat) : (blk p q c a (k + 1)).2 = nxt p q c (blk p q c a k).2 := by rw [blk_S]; split <;> rfl
theorem blk_ok {p q c a : Int} (h : Rk p q c) (h1 : 1 ≤ a) (h2 : a < nxt p q c a) : ∀ k, 0 ≤ (blk p q c a k).1 ∧ a ≤ (blk p q c a k).2 ∧ (blk p q c a k).2 < nxt p q c (blk p q c a k).2
  | 0 => ⟨Int.le_refl _, Int.le_refl _, h2⟩
  | k + 1 => by
    obtain ⟨i1, i2, i3⟩ := blk_ok h h1 h2 k
    have i4 : a ≤ nxt p q c (blk p q c a k).2 := by omega
    unfold blk
    split
    · exact ⟨Int.le_refl _, i4, start_ge h h2 i4⟩
    · exact ⟨by show 0 ≤ (blk p q c a k).1 + (blk p q c a k).2; omega, i4, start_ge h h2 i4⟩
/-- how great the blocks grow -/
theorem blk_lt {p q c a : Int} (h : Rk p q c) (h1 : 1 ≤ a) (ha : a < (2 : Int) ^ 140) (hc : c < (2 : Int) ^ 140) : ∀ k, (blk p q c a k).2 < (2 : Int) ^ (140 + 21 * k)
  | 0 => by simpa [blk] using ha
  | k + 1 => by
    have i := blk_lt h h1 ha hc k
    have e := blk_snd p q c a k
    have e2 : (2 : Int) ^ (140 + 21 * (k + 1)) = (2 : Int) ^ (140 + 21 * k) * 2097152 := by
      rw [show 140 + 21 * (k + 1) = (140 + 21 * k) + 21 by omega, Int.pow_add]; rfl
    have hc2 : c < (2 : Int) ^ (140 + 21 * k) := Int.lt_of_lt_of_le hc (by
      rw [Int.pow_add]
      have : (1 : Int) ≤ 2 ^ (21 * k) := Int.pow_pos (by decide)
      have := Int.mul_le_mul_of_nonneg_left this (show (0 : Int) ≤ 2 ^ 140 by decide)
      omega)
    have hX : (0 : Int) < 2 ^ (140 + 21 * k) := Int.pow_pos (by decide)
    rw [e, e2]
    generalize (2 : Int) ^ (140 + 21 * k) = X at *
    generalize (blk p q c a k).2 = y at *
    unfold nxt
    have hp := h.p2
    have hp0 : 0 < p := by have := h.q1; have := h.pq; omega
    by_cases hy : 0 ≤ y
    · have d1 : p * y / q ≤ p * y := Int.ediv_le_self _ (Int.mul_nonneg (by omega) hy)
      have d2 := Int.mul_le_mul_of_nonneg_right hp hy
      omega
    · have d1 : p * y / q ≤ 0 := by
        have : p * y ≤ 0 := Int.mul_nonpos_of_nonneg_of_nonpos (by omega) (by omega)
        exact Int.ediv_nonpos_of_nonpos_of_neg this h.q0
      omega
theorem blk_fst {p q c a : Int} (h : Rk p q c) (h1 : 1 ≤ a) (h2 : a < nxt p q c a) : ∀ k, (blk p q c a k).1 ≤ k * (blk p q c a k).2
  | 0 => by simp [blk]
  | k + 1 => by
    have i := blk_fst h h1 h2 k
    obtain ⟨i1, i2, i3⟩ := blk_ok h h1 h2 k
    have e3 : (((k + 1 : Nat)) : Int) * nxt p q c (blk p q c a k).2 = k * nxt p q c (blk p q c a k).2 + nxt p q c (blk p q c a k).2 := by rw [Int.natCast_succ, Int.add_mul, Int.one_mul]
    have i5 : (k : Int) * (blk p q c a k).2 ≤ k * nxt p q c (blk p q c a k).2 := Int.mul_le_mul_of_nonneg_left (by omega) (by omega)
    have i6 : 0 ≤ (k : Int) * (blk p q c a k).2 := Int.mul_nonneg (by omega) (by omega)
    unfold blk
    split
    · show 0 ≤ ((k + 1 : Nat) : Int) * nxt p q c (blk p q c a k).2
      omega
    · show (blk p q c a k).1 + (blk p q c a k).2 ≤ ((k + 1 : Nat) : Int) * nxt p q c (blk p q c a k).2
      omega
end GB
set_option Elab.async false
set_option linter.all false
set_option maxRecDepth 100000
set_option maxHeartbeats 4000000
namespace GB
open PySem PySem.Spec PyProof.Rows L2
end GB
set_option Elab.async false
set_option linter.all false
set_option maxRecDepth 100000
set_option maxHeartbeats 2000000
namespace GB
open PySem L2
theorem jEnum_at {μ : Mu} {l : Nat} {xs : List PV} (h : getL μ l = some xs) (i : Nat) : jEnum (jLst l) μ i = some ((xs[i]?).map fun x => .tup [.int i, x]) := by
  unfold jEnum jLst; simp only [h, Option.map_some]
theorem jLst_at {μ : Mu} {l : Nat} {xs : List PV} (h : getL μ l = some xs) (i : Nat) : jLst l μ i = some (xs[i]?) := by
  unfold jLst; simp only [h, Option.map_some]
def numd (xs : List PV) : List PV := xs.mapIdx fun i x => .tup [.int i, x]
theorem numd_len (xs : List PV) : (numd xs).length = xs.length := by simp [numd]
theorem numd_get (xs : List PV) (i : Nat) : (numd xs)[i]? = (xs[i]?).map fun x => .tup [.int i, x] := by simp [numd]
theorem cells_ok {μ : Mu} {r : Nat} {ns : List Int} (hr : getL μ r = some (ns.map .int)) (hn : ns.length ≤ 63) :
    ∃ (lc : Nat) (xs : List Int) (μ' : Mu), f__law_cells [.ref r, .int 3] μ = .ok (.ref lc) μ' ∧ getL μ' lc = some (xs.map .int) ∧ 1 ≤ xs.length ∧ xs.length ≤ 3 := by
  unfold f__law_cells d__law_cells
  rw [runF_]
  have hr1 := getL_app (ν := [.lst (cutP (ns.map .int) none (some 3))]) hr
  have c1 : cutP (ns.map PV.int) none (some 3) = (ns.take 3).map .int := by
    have := cut_to (ns.map PV.int) 3
    rw [← List.map_take] at this; exact this
  have c2 : cutP (ns.map PV.int) (some 3) (some 63) = ((ns.drop 3).take 60).map .int := by
    have := cut_both (ns.map PV.int) 3 63 (by omega)
    rw [← List.map_drop, ← List.map_take] at this; exact this
  -- the loop, from where the list stands at lc
  have loop : ∀ (lc : Nat) (μ2 : Mu) (xs : List Int), getM μ2 lc = some (xs.map .int) → getL μ2 r = some (ns.map .int) → 1 ≤ xs.length → xs.length ≤ 3 → (3 < ns.length → xs.length = 3) →
      ∃ (lc' : Nat) (xs' : List Int) (μ' : Mu), ((((dFor (diEn (dCons (dSl (dVar 0) (dPart (dVar 1)) (dPart (dC (.int 63)))) (dNil))) (gT 2 (gsC (gN 3) (gsC (gN 4) (gsN)))) (dSeq (dAsg (dOp fMod (dApp fInt (dCons (dVar 3) (dNil))) (dVar 1)) (gN 5)) (dAsg (dOp fAdd (dOp fIx (dVar 2) (dVar 5)) (dOp fMulI (dVar 4) (dOp fAdd (dVar 3) (dC (.int 2))))) (gSubL (dVar 2) (dVar 5))))) [some (.ref r), some (.int 3), some (.ref lc), none, none, none] μ2).seq (dRet (dVar 2))).toR) = .ok (.ref lc') μ' ∧ getL μ' lc' = some (xs'.map .int) ∧ 1 ≤ xs'.length ∧ xs'.length ≤ 3 := by
    intro lc μ2 xs h1 h2 h3 h4 h5
    have hS := getL_last (μ := μ2) (acc := ((ns.drop 3).take 60).map .int)
    simp only [dFor_, diEn_, dCons_, dSl_, dVar_0, dPart_, dVar_1, R.bind_ok, unI_, dC_, fSl_ref h2, c2, dNil_, en_ok hS, R.thn_ok]
    generalize e : dForN (jEnum (jLst μ2.length)) _ _ _ _ _ _ = o
    have key : ∃ (ys : List Int) (x3 x4 x5 : Option PV) (μ' : Mu), o = .nx [some (.ref r), some (.int 3), some (.ref lc), x3, x4, x5] μ' ∧ getM μ' lc = some (ys.map .int) ∧ ys.length = xs.length := by
      rw [← e]
      refine for_items (items := numd (((ns.drop 3).take 60).map .int)) (Inv := fun i ρ μ' => ∃ (ys : List Int) (x3 x4 x5 : Option PV), ρ = [some (.ref r), some (.int 3), some (.ref lc), x3, x4, x5] ∧ getM μ' lc = some (ys.map .int) ∧ ys.length = xs.length ∧ getL μ' μ2.length = some (((ns.drop 3).take 60).map .int))
        (Q := fun o => ∃ (ys : List Int) (x3 x4 x5 : Option PV) (μ' : Mu), o = .nx [some (.ref r), some (.int 3), some (.ref lc), x3, x4, x5] μ' ∧ getM μ' lc = some (ys.map .int) ∧ ys.length = xs.length) ?_ ?_ ?_ ?_ ?_
      · rintro i ρ μ' ⟨ys, x3, x4, x5, rfl, e1, e2, e3⟩
        rw [jEnum_at e3, numd_get]
      · rw [numd_len, List.length_map, List.length_take, List.length_drop]; unfold lid; omega
      · exact ⟨xs, none, none, none, rfl, getM_app h1, rfl, hS⟩
      · rintro ρ μ' ⟨ys, x3, x4, x5, rfl, e1, e2, e3⟩
        exact ⟨ys, x3, x4, x5, μ', rfl, e1, e2⟩
      · rintro i x ρ μ' hx ⟨ys, x3, x4, x5, rfl, e1, e2, e3⟩
        rw [numd_get] at hx
        cases q : (((ns.drop 3).take 60).map PV.int)[i]? with
        | none => rw [q] at hx; cases hx
        | some y =>
          rw [q] at hx
          cases hx
          have hi : i < ((ns.drop 3).take 60).length := by
            have := (List.getElem?_eq_some_iff.mp q).1
            rwa [List.length_map] at this
          have hi2 : i < 60 ∧ 3 < ns.length := by rw [List.length_take, List.length_drop] at hi; omega
          have hy : y = .int (((ns.drop 3).take 60)[i]) := by
            rw [List.getElem?_map, List.getElem?_eq_getElem hi] at q
            exact (Option.some.inj q).symm
          subst hy
          have h33 := h5 hi2.2
          have hm := Int.emod_nonneg (i : Int) (show (3 : Int) ≠ 0 by decide)
          have hm2 := Int.emod_lt_of_pos (i : Int) (show (0 : Int) < 3 by decide)
          have hat : ((i : Int) % 3).toNat < ys.length := by omega
          have ha : atI (ys.map PV.int) ((i : Int) % 3) = some (.int ys[((i : Int) % 3).toNat]) := by
            have := atI_nat (show (ys.map PV.int)[((i : Int) % 3).toNat]? = some (.int ys[((i : Int) % 3).toNat]) by rw [List.getElem?_map, List.getElem?_eq_getElem hat]; rfl)
            rw [Int.toNat_of_nonneg hm] at this
            exact this
          have hix : ixN (ys.map PV.int).length ((i : Int) % 3) = some ((i : Int) % 3).toNat := by
            unfold ixN
            rw [if_pos hm, if_pos (by rw [List.length_map]; omega)]
          have hmul : fMulI (.int ((ns.drop 3).take 60)[i]) (.int ((i : Int) + 2)) μ' = .ok (.int (((ns.drop 3).take 60)[i] * ((i : Int) + 2))) μ' := fMul_r (by omega)
          have hne : lc ≠ μ2.length := by
            have := getM_lt h1
            omega
          refine ⟨_, _, rfl, ?_⟩
          simp only [dSeq_, dAsg_, dOp_, dApp_, dCons_, dNil_, dVar_0, dVar_1, dVar_2, dVar_3, dVar_4, dC_, R.bind_ok, fInt_int, fMod_ok (show (0 : Int) < 3 by decide), R.thn_ok, gN_, aft_, seq_nx, List.set_cons_succ, List.set_cons_zero, dVar_5, fIx_ref (getL_of_M e1) ha, fAdd_int, hmul, gSubL_, subSet_ok e1 hix, turnTo_nx]
          refine ⟨ys.set ((i : Int) % 3).toNat (ys[((i : Int) % 3).toNat] + ((ns.drop 3).take 60)[i] * ((i : Int) + 2)), _, _, _, rfl, ?_, by rw [List.length_set]; exact e2, by rw [getL_set_ne hne]; exact e3⟩
          rw [getM_set e1, List.map_set]
    obtain ⟨ys, x3, x4, x5, μ', rfl, e1, e2⟩ := key
    exact ⟨lc, ys, μ', by simp, getL_of_M e1, by omega, by omega⟩
  have hl : getL (μ ++ [.lst ((ns.take 3).map .int)]) μ.length = some ((ns.take 3).map .int) := getL_last
  rw [c1] at hr1
  cases ns with
  | nil =>
    have h3 := loop (μ.length + 2) (μ ++ [.lst []] ++ [.lst []] ++ [.lst [.int 0]]) [0] (getM_last' (by simp)) (getL_app (getL_app hr1)) (by decide) (by decide) (by intro h; simp at h)
    have hl2 : getL (μ ++ [.lst []] ++ [.lst []]) (μ.length + 1) = some [] := getL_last' (by simp)
    simp only [List.take_nil, List.map_nil] at hl
    have e0 : dAsg (dOr (dApp fList (dCons (dSl (dVar 0) (dNoPart) (dPart (dVar 1))) (dNil))) (dLst (dCons (dC (.int 0)) (dNil)))) (gN 2) [some (.ref r), some (.int 3), none, none, none, none] μ = .nx [some (.ref r), some (.int 3), some (.ref (μ.length + 2)), none, none, none] (μ ++ [.lst []] ++ [.lst []] ++ [.lst [.int 0]]) := by
      have ht : fTru (.ref (μ.length + 1)) (μ ++ [.lst []] ++ [.lst []]) = some false := by rw [fTru_ref hl2]; rfl
      have c1' : cutP (([] : List Int).map PV.int) none (some 3) = [] := c1
      simp only [dAsg_, dOr_, dApp_, dCons_, dSl_, dVar_0, dNoPart_, dPart_, dVar_1, R.bind_ok, unI_, fSl_ref hr, c1', dNil_, fList_ref hl, List.length_append, List.length_singleton, ht, byT_f, dLst_, dC_, List.length_cons, List.length_nil, R.thn_ok, gN_, aft_, List.set_cons_succ, List.set_cons_zero]
      simp
    rw [dSeq_]
    show ∃ (lc : Nat) (xs : List Int) (μ' : Mu), ((dAsg _ _ [some (.ref r), some (.int 3), none, none, none, none] μ).seq _).toR = _ ∧ _
    rw [e0, seq_nx, dSeq_]
    exact h3
  | cons n0 nr =>
    have h3 := loop (μ.length + 1) (μ ++ [.lst (((n0 :: nr).take 3).map .int)] ++ [.lst (((n0 :: nr).take 3).map .int)]) ((n0 :: nr).take 3) (getM_last' (by simp)) (getL_app hr1) (by rw [List.length_take, List.length_cons]; omega) (by rw [List.length_take]; omega) (fun h => by rw [List.length_take]; omega)
    have hl2 : getL (μ ++ [.lst (((n0 :: nr).take 3).map .int)] ++ [.lst (((n0 :: nr).take 3).map .int)]) (μ.length + 1) = some (((n0 :: nr).take 3).map .int) := getL_last' (by simp)
    have e0 : dAsg (dOr (dApp fList (dCons (dSl (dVar 0) (dNoPart) (dPart (dVar 1))) (dNil))) (dLst (dCons (dC (.int 0)) (dNil)))) (gN 2) [some (.ref r), some (.int 3), none, none, none, none] μ = .nx [some (.ref r), some (.int 3), some (.ref (μ.length + 1)), none, none, none] (μ ++ [.lst (((n0 :: nr).take 3).map .int)] ++ [.lst (((n0 :: nr).take 3).map .int)]) := by
      have ht : fTru (.ref (μ.length + 1)) (μ ++ [.lst (((n0 :: nr).take 3).map .int)] ++ [.lst (((n0 :: nr).take 3).map .int)]) = some true := by rw [fTru_ref hl2]; rfl
      simp only [dAsg_, dOr_, dApp_, dCons_, dSl_, dVar_0, dNoPart_, dPart_, dVar_1, R.bind_ok, unI_, fSl_ref hr, c1, dNil_, fList_ref hl, List.length_append, List.length_singleton, ht, byT_t, R.thn_ok, gN_, aft_, List.set_cons_succ, List.set_cons_zero]
    rw [dSeq_]
    show ∃ (lc : Nat) (xs : List Int) (μ' : Mu), ((dAsg _ _ [some (.ref r), some (.int 3), none, none, none, none] μ).seq _).toR = _ ∧ _
    rw [e0, seq_nx, dSeq_]
    exact h3
end GB
set_option Elab.async false
set_option linter.all false
set_option maxRecDepth 100000
set_option maxHeartbeats 4000000
namespace GB
open PySem PySem.Spec PyProof.Rows L2
end GB
set_option Elab.async false
set_option linter.all false
set_option maxRecDepth 100000
set_option maxHeartbeats 2000000
namespace GB
open PySem L2
theorem sum_lt {p q c a : Int} (h : Rk p q c) (h1 : 1 ≤ a) (h2 : a < nxt p q c a) (ha : a < (2 : Int) ^ 140) (hc : c < (2 : Int) ^ 140) {k : Nat} (hk : k ≤ 400) :
    0 ≤ (blk p q c a k).1 + (blk p q c a k).2 ∧ ((blk p q c a k).1 + (blk p q c a k).2).natAbs < 2 ^ 8800 ∧ 0 < (blk p q c a k).2 ∧ (blk p q c a k).2.natAbs < 2 ^ 8800 := by
  obtain ⟨i1, i2, i3⟩ := blk_ok h h1 h2 k
  have i4 := blk_fst h h1 h2 k
  have i5 := blk_lt h h1 ha hc k
  have i6 : (k : Int) * (blk p q c a k).2 ≤ 400 * (blk p q c a k).2 := Int.mul_le_mul_of_nonneg_right (by omega) (by omega)
  have i7 : (2 : Int) ^ (140 + 21 * k) ≤ 2 ^ 8540 := ipow_mono (by omega)
  have i8 : (2 : Int) ^ 8549 = 2 ^ 8540 * 2 ^ 9 := by rw [← Int.pow_add]
  have i9 : (2 : Int) ^ 8540 * 401 ≤ 2 ^ 8540 * 2 ^ 9 := Int.mul_le_mul_of_nonneg_left (by decide) (Int.pow_nonneg (by decide))
  have i10 : (2 : Int) ^ 8549 ≤ 2 ^ 8800 := ipow_mono (by decide)
  have ix : (0 : Int) < 2 ^ 8540 := Int.pow_pos (by decide)
  rw [← i8] at i9
  generalize (2 : Int) ^ (140 + 21 * k) = X at *
  generalize hY : (2 : Int) ^ 8540 = Y at *
  generalize (2 : Int) ^ 8549 = Y2 at *
  have j1 : (blk p q c a k).1 + (blk p q c a k).2 < (2 : Int) ^ 8800 := by
    generalize (2 : Int) ^ 8800 = Z at *
    omega
  have j2 : (blk p q c a k).2 < (2 : Int) ^ 8800 := by
    generalize (2 : Int) ^ 8800 = Z at *
    omega
  exact ⟨by omega, nat_lt (by omega) j1, by omega, nat_lt (by omega) j2⟩
theorem tp_lt {p q c a : Int} (h : Rk p q c) (h1 : 1 ≤ a) (h2 : a < nxt p q c a) (ha : a < (2 : Int) ^ 140) (hc : c < (2 : Int) ^ 140) {k : Nat} (hk : k < 400) :
    0 ≤ tpS p q c a k ∧ (tpS p q c a k).natAbs < 2 ^ 8800 := by
  obtain ⟨a1, a2, _, _⟩ := sum_lt h h1 h2 ha hc (k := k) (by omega)
  obtain ⟨b1, b2, _, _⟩ := sum_lt h h1 h2 ha hc (k := k + 1) (by omega)
  unfold tpS
  split
  · exact ⟨b1, b2⟩
  · exact ⟨a1, a2⟩
theorem shares_eq {p q c a : Int} {μ : Mu} (h : Rk p q c) (h1 : 1 ≤ a) (h2 : a < nxt p q c a) (ha : a < (2 : Int) ^ 140) (hc : c < (2 : Int) ^ 140) {n : Nat} (hn : n ≤ 390) :
    ∃ junk, f_shares [rl p q c, .int a, .int n] μ = .ok (.tup (shs p q c a n)) (μ ++ junk) := by
  unfold f_shares d_shares
  rw [runF_]
  have hal := along_eq (μ := μ) h h1 h2 (n := n) (by omega)
  have g0 : getL (μ ++ [Ob.lst (blks p q c a n)]) μ.length = some (blks p q c a n) := getL_last
  have hcut : cutP (blks p q c a n) (some 1) none = (blks p q c a n).drop 1 := cut_from _ 1
  have gz1 := getL_app (ν := [Ob.lst ((blks p q c a n).drop 1)]) g0
  have gz2 : getL (μ ++ [Ob.lst (blks p q c a n)] ++ [Ob.lst ((blks p q c a n).drop 1)]) (μ ++ [Ob.lst (blks p q c a n)]).length = some ((blks p q c a n).drop 1) := getL_last
  simp only [dSeq_, dAsg_, dRet_, dCall_, dApp_, dCons_, dNil_, List.map_cons, List.map_nil, List.cons_append, List.nil_append, List.length_cons, List.length_nil, List.replicate_succ, List.replicate_zero, Nat.reduceAdd, Nat.reduceSub, dVar_0, dVar_1, dVar_2, dVar_3, R.bind_ok, if_true, hal, R.nex_ok, R.thn_ok, gN_, aft_, seq_nx, List.set_cons_succ, List.set_cons_zero, dLc_, diZip_, dSl_, dPart_, dC_, unI_, dNoPart_, fSl_ref g0, hcut, zipL_ok gz1 gz2]
  generalize e : dLcN _ _ _ _ _ _ _ _ _ = o
  have key : o = .ok (.ref (μ ++ [Ob.lst (blks p q c a n)] ++ [Ob.lst ((blks p q c a n).drop 1)]).length) ((μ ++ [Ob.lst (blks p q c a n)] ++ [Ob.lst ((blks p q c a n).drop 1)]) ++ [Ob.lst (shs p q c a n)]) := by
    rw [← e]
    have hsh : shs p q c a n = ((List.range n).map fun k => PV.tup [pairV (blk p q c a k), pairV (blk p q c a (k + 1))]).map fun x => match x with
      | .tup [.tup [.int b0, .int a0], .tup [.int b1, .int a1]] => frac (if b1 + a1 > b0 + a0 then b1 + a1 else b0 + a0) a1
      | _ => .non := by
      unfold shs
      rw [List.map_map]
      rfl
    rw [hsh]
    refine lc_map _ (fun acc i => ?_) (by rw [List.length_map, List.length_range]; omega) (fun acc i x hx => ?_)
    · have z1 := getL_app (ν := [Ob.lst acc]) gz1
      have z2 := getL_app (ν := [Ob.lst acc]) gz2
      unfold jZip
      rw [jLst_at z1, jLst_at z2]
      by_cases hi : i < n
      · rw [blks_get _ _ _ _ (by omega), List.getElem?_drop, blks_get _ _ _ _ (by omega), List.getElem?_map, List.getElem?_range hi, Nat.add_comm 1 i]
        rfl
      · have hz : (List.map (fun k => PV.tup [pairV (blk p q c a k), pairV (blk p q c a (k + 1))]) (List.range n))[i]? = none := List.getElem?_eq_none (by rw [List.length_map, List.length_range]; omega)
        rw [List.getElem?_drop, List.getElem?_eq_none (l := blks p q c a n) (i := 1 + i) (by rw [blks_len]; omega), hz]
        cases (blks p q c a n)[i]? <;> rfl
    · rw [List.getElem?_map] at hx
      by_cases hi : i < n
      · rw [List.getElem?_range hi] at hx
        cases hx
        obtain ⟨c1, c2⟩ := tp_lt h h1 h2 ha hc (k := i) (by omega)
        obtain ⟨_, _, c3, c4⟩ := sum_lt h h1 h2 ha hc (k := i + 1) (by omega)
        have hf := fun μ => fraction_eq (μ := μ) c1 c3 c2 c4 (by decide) (by decide)
        unfold tpS at hf
        refine ⟨_, rfl, ?_⟩
        simp only [dCall_, dCons_, dNil_, dApp_, dVar_4, dVar_5, dOp_, dC_, wipeP, List.set_cons_succ, List.set_cons_zero, R.bind_ok, pairV, fSum_two, fMax_two, fIx_tup1, List.length_cons, List.length_nil, Nat.reduceAdd, if_true, hf, R.nex_ok, frac]
      · rw [List.getElem?_eq_none (by simp; omega)] at hx
        cases hx
  rw [key]
  have gk : getL ((μ ++ [Ob.lst (blks p q c a n)] ++ [Ob.lst ((blks p q c a n).drop 1)]) ++ [Ob.lst (shs p q c a n)]) (μ ++ [Ob.lst (blks p q c a n)] ++ [Ob.lst ((blks p q c a n).drop 1)]).length = some (shs p q c a n) := getL_last
  refine ⟨[Ob.lst (blks p q c a n)] ++ ([Ob.lst ((blks p q c a n).drop 1)] ++ [Ob.lst (shs p q c a n)]), ?_⟩
  simp only [R.bind_ok, fTuple_ref gk, R.thn_ok, toR_rt]
  simp only [List.append_assoc]
end GB
set_option Elab.async false
set_option linter.all false
set_option maxRecDepth 100000
set_option maxHeartbeats 4000000
namespace GB
open PySem PySem.Spec PyProof.Rows L2
end GB
set_option Elab.async false
set_option linter.all false
set_option maxRecDepth 100000
set_option maxHeartbeats 2000000
namespace GB
open PySem L2
theorem smL_len {f : PV → PV → Bool} : ∀ {xs ys : List PV}, smL f xs ys = true → xs.length = ys.length
  | [], [], _ => rfl
  | [], _ :: _, h => by simp [smL] at h
  | _ :: _, [], h => by simp [smL] at h
  | x :: xs, y :: ys, h => by
    simp only [smL, Bool.and_eq_true] at h
    rw [List.length_cons, List.length_cons, smL_len h.2]
theorem smL_get {f : PV → PV → Bool} : ∀ {xs ys : List PV}, smL f xs ys = true → ∀ {i : Nat} {x y : PV}, xs[i]? = some x → ys[i]? = some y → f x y = true
  | [], [], _, _, _, _, h1, _ => by simp at h1
  | [], _ :: _, h, _, _, _, _, _ => by simp [smL] at h
  | _ :: _, [], h, _, _, _, _, _ => by simp [smL] at h
  | x :: xs, y :: ys, h, i, _, _, h1, h2 => by
    simp only [smL, Bool.and_eq_true] at h
    cases i with
    | zero => simp at h1 h2; subst h1; subst h2; exact h.1
    | succ i => simp at h1 h2; exact smL_get h.2 h1 h2
theorem smL_mono {f g : PV → PV → Bool} (hf : ∀ x y, f x y = true → g x y = true) : ∀ {xs ys : List PV}, smL f xs ys = true → smL g xs ys = true
  | [], [], _ => rfl
  | [], _ :: _, h => by simp [smL] at h
  | _ :: _, [], h => by simp [smL] at h
  | x :: xs, y :: ys, h => by
    simp only [smL, Bool.and_eq_true] at h ⊢
    exact ⟨hf _ _ h.1, smL_mono hf h.2⟩
theorem smL_refl {f : PV → PV → Bool} : ∀ {xs : List PV}, (∀ x ∈ xs, f x x = true) → smL f xs xs = true
  | [], _ => rfl
  | x :: xs, h => by
    simp only [smL, Bool.and_eq_true]
    exact ⟨h x (by simp), smL_refl fun y hy => h y (by simp [hy])⟩
theorem sm_app {ν : Mu} : ∀ (n : Nat) {μ : Mu} {x y : PV}, sm n μ x y = true → sm n (μ ++ ν) x y = true
  | 0, _, _, _, h => by simp [sm] at h
  | n + 1, μ, x, y, h => by
    unfold sm at h ⊢
    split at h
    · rw [Bool.and_eq_true] at h ⊢
      exact ⟨h.1, smL_mono (fun _ _ => sm_app n) h.2⟩
    · split at h
      · rename_i e1 e2
        simp only [getL_app e1, getL_app e2]
        rw [Bool.and_eq_true] at h ⊢
        exact ⟨h.1, smL_mono (fun _ _ => sm_app n) h.2⟩
      · cases h
    all_goals exact h
theorem same_zip {n m : Nat} {ja jb : DI} {xs ys : List PV} {μ : Mu} {r0 r1 r2 : Option PV} (ih : ∀ (μ : Mu) (x y : PV), sm n μ x y = true → ∃ junk, f__law_same n [x, y] μ = .ok (.bl true) (μ ++ junk))
    (hs : smL (sm n μ) xs ys = true) (hm : xs.length = m) (h16 : m < 16777216) (ha : ∀ ν i, ja (μ ++ ν) i = some (xs[i]?)) (hb : ∀ ν i, jb (μ ++ ν) i = some (ys[i]?)) :
    ∃ junk, dLcN (jZip ja jb) (gc2 3 4) dYes (dCall 2 (f__law_same n) (dCons (dVar 3) (dCons (dVar 4) dNil))) [r0, r1, r2, none, none] μ.length lid 0 (μ ++ [.lst []]) = .ok (.ref μ.length) (μ ++ [.lst (List.replicate m (.bl true))] ++ junk) := by
  have hl := smL_len hs
  refine lcN_gen (Inv := fun i acc μ' => i ≤ m ∧ acc = List.replicate i (.bl true) ∧ ∃ junk, μ' = μ ++ [.lst acc] ++ junk) (Q := fun r => ∃ junk, r = .ok (.ref μ.length) (μ ++ [.lst (List.replicate m (.bl true))] ++ junk)) (N := m) (fun i acc μ' h => h.1) (fun i acc μ' h => ?_) lid 0 [] (μ ++ [.lst []]) (by unfold lid; omega) ⟨Nat.zero_le _, rfl, [], by simp⟩
  obtain ⟨hi, hacc, junk, rfl⟩ := h
  by_cases hlt : i < m
  · have hx := List.getElem?_eq_getElem (l := xs) (show i < xs.length by omega)
    have hy := List.getElem?_eq_getElem (l := ys) (show i < ys.length by omega)
    have hsm := smL_get hs hx hy
    obtain ⟨j2, e2⟩ := ih (μ ++ ([Ob.lst acc] ++ junk)) _ _ (sm_app n hsm)
    rw [← List.append_assoc] at e2
    refine .inr ⟨hlt, .tup [xs[i], ys[i]], [r0, r1, r2, some xs[i], some ys[i]], true, _, ?_, rfl, rfl, ?_⟩
    · unfold jZip
      rw [List.append_assoc, ha, hb, hx, hy]
    · rw [if_pos rfl]
      refine ⟨.bl true, μ ++ [.lst acc] ++ (junk ++ j2), ?_, ?_, ?_, hlt, ?_, junk ++ j2, ?_⟩
      · simp only [dCall_, dCons_, dNil_, dVar_3, dVar_4, R.bind_ok, List.length_cons, List.length_nil, Nat.reduceAdd, if_true, e2, R.nex_ok]
        rw [List.append_assoc (μ ++ [Ob.lst acc])]
      · exact getM_app getM_last
      · rw [hacc, List.length_replicate]; omega
      · rw [hacc, List.replicate_succ']
      · rw [List.set_append_left _ _ (by simp), set_last]
  · have hie : i = m := by omega
    subst hie
    refine .inl ⟨?_, junk, by rw [hacc]⟩
    unfold jZip
    rw [List.append_assoc, ha, hb, List.getElem?_eq_none (l := xs) (by omega), List.getElem?_eq_none (l := ys) (by omega)]
theorem allB_repl (m : Nat) : allB (List.replicate m (.bl true)) = some (List.replicate m true) := by
  induction m with
  | zero => rfl
  | succ m ih => simp [List.replicate_succ, allB, ih]
theorem all_rep (m : Nat) : (List.replicate m true).all id = true := by simp
theorem fAll_rep {μ : Mu} {l m : Nat} (h : getL μ l = some (List.replicate m (.bl true))) : fAll [.ref l] μ = .ok (.bl true) μ := by
  unfold fAll
  simp only [h, Option.bind_some, allB_repl, all_rep]
theorem fEq_non {μ : Mu} : fEq .non .non μ = .ok (.bl true) μ := rfl
theorem jLst_at' {μ : Mu} {l : Nat} {xs : List PV} (h : getL μ l = some xs) (i : Nat) : jLst l μ i = some (xs[i]?) := by unfold jLst; simp only [h, Option.map_some]
theorem same_ok : ∀ (n : Nat) (μ : Mu) (x y : PV), sm n μ x y = true → ∃ junk, f__law_same n [x, y] μ = .ok (.bl true) (μ ++ junk)
  | 0, _, _, _, h => by simp [sm] at h
  | n + 1, μ, x, y, h => by
    unfold sm at h
    split at h
    · rename_i xs ys
      rw [Bool.and_eq_true, decide_eq_true_eq] at h
      have hl := smL_len h.2
      obtain ⟨junk, e⟩ := same_zip (μ := μ) (r0 := some (.tup xs)) (r1 := some (.tup ys)) (r2 := none) (ja := jTup xs) (jb := jTup ys) (same_ok n) h.2 rfl (by omega) (fun ν i => rfl) (fun ν i => rfl)
      refine ⟨[.lst (List.replicate xs.length (.bl true))] ++ junk, ?_⟩
      have ef := fAll_rep (m := xs.length) (getL_app (ν := junk) (getL_last (μ := μ) (acc := List.replicate xs.length (.bl true))))
      rw [← List.append_assoc]
      simp [f__law_same, d__law_same, runF_, fIsiL, fIsi, tyN, isTyL, isTy, hl, wipeP, -List.append_assoc] at e ef ⊢
      rw [e]
      simp [ef, -List.append_assoc]
    · split at h
      · rename_i l m _ _ xs ys e1 e2
        rw [Bool.and_eq_true, decide_eq_true_eq] at h
        have hl := smL_len h.2
        obtain ⟨junk, e⟩ := same_zip (μ := μ) (r0 := some (.ref l)) (r1 := some (.ref m)) (r2 := none) (ja := jLst l) (jb := jLst m) (same_ok n) h.2 rfl (by omega) (fun ν i => jLst_at' (getL_app e1) i) (fun ν i => jLst_at' (getL_app e2) i)
        refine ⟨[.lst (List.replicate xs.length (.bl true))] ++ junk, ?_⟩
        have ef := fAll_rep (m := xs.length) (getL_app (ν := junk) (getL_last (μ := μ) (acc := List.replicate xs.length (.bl true))))
        rw [← List.append_assoc]
        simp [f__law_same, d__law_same, runF_, fIsiL, fIsi, tyN, isTyL, isTy, hl, wipeP, e1, e2, fLen_ref e1, fLen_ref e2, zipL_ok e1 e2, -List.append_assoc] at e ef ⊢
        rw [e]
        simp [ef, -List.append_assoc]
      · cases h
    · rename_i i j
      refine ⟨[], ?_⟩
      simp at h
      simp [f__law_same, d__law_same, runF_, fIsiL, fIsi, tyN, isTyL, isTy, h]
    · rename_i a b
      refine ⟨[], ?_⟩
      simp at h
      simp [f__law_same, d__law_same, runF_, fIsiL, fIsi, tyN, isTyL, isTy, h, fIsN]
    · refine ⟨[], ?_⟩
      simp [f__law_same, d__law_same, runF_, fIsiL, fIsi, tyN, isTyL, isTy, fIsN, fEq_non]
    · cases h
theorem same_up (as : List PV) (μ : Mu) (v : PV) (_ : as.length = 2) (h : sameF as μ = some v) : low v = true ∧ ∃ junk, f__law_same 8 as μ = .ok v (μ ++ junk) := by
  unfold sameF at h
  split at h
  · split at h
    · rename_i hs
      cases h
      exact ⟨rfl, same_ok 8 _ _ _ hs⟩
    · cases h
  · cases h
theorem gsame {μ : Mu} {x y : PV} (h : sm 8 μ x y = true) : gA sameF [x, y] μ = .ok (.bl true) μ := by
  unfold gA sameF
  simp only [h, if_true]
end GB
set_option Elab.async false
set_option linter.all false
set_option maxRecDepth 100000
set_option maxHeartbeats 4000000
namespace GB
open PySem PySem.Spec PyProof.Rows L2
end GB
set_option Elab.async false
set_option linter.all false
set_option maxRecDepth 100000
set_option maxHeartbeats 2000000
namespace GB
open PySem L2
theorem okS_of {p q c a n : Int} (h : okS p q c a n = true) : Rk p q c ∧ 1 ≤ a ∧ a < nxt p q c a ∧ a < (2 : Int) ^ 140 ∧ c < (2 : Int) ^ 140 ∧ 1 ≤ n ∧ n ≤ 390 := by
  simp only [okS, Bool.and_eq_true, Bool.or_eq_true, Bool.not_eq_true', decide_eq_true_eq, decide_eq_false_iff_not] at h
  obtain ⟨⟨⟨⟨⟨⟨⟨⟨⟨⟨v1, v2⟩, v3⟩, v4⟩, v5⟩, v6⟩, v7⟩, v8⟩, v9⟩, v10⟩, v11⟩ := h
  exact ⟨⟨v1, v2, v3, v4, fun z => v5.resolve_left (by simp [z])⟩, v6, v7, v8, v9, v10, v11⟩
theorem okS_mk {p q c a n : Int} (h : Rk p q c) (h1 : 1 ≤ a) (h2 : a < nxt p q c a) (h3 : a < (2 : Int) ^ 140) (h4 : c < (2 : Int) ^ 140) (h5 : 1 ≤ n) (h6 : n ≤ 390) : okS p q c a n = true := by
  have := h.q1; have := h.pq; have := h.p2; have := h.c0; have h7 := h.c1
  simp only [okS, Bool.and_eq_true, Bool.or_eq_true, Bool.not_eq_true', decide_eq_true_eq, decide_eq_false_iff_not]
  refine ⟨⟨⟨⟨⟨⟨⟨⟨⟨⟨by omega, by omega⟩, by omega⟩, by omega⟩, ?_⟩, by omega⟩, h2⟩, h3⟩, h4⟩, by omega⟩, by omega⟩
  by_cases hpq : p = q
  · exact .inr (h7 hpq)
  · exact .inl hpq
theorem ints_low {xs : List Nat} {f : Nat → Int} : lowL (xs.map fun k => PV.int (f k)) = true := by
  induction xs with
  | nil => rfl
  | cons x xs ih => simpa [lowL, low] using ih
theorem bls_low {xs : List Nat} {f : Nat → Bool} : lowL (xs.map fun k => PV.bl (f k)) = true := by
  induction xs with
  | nil => rfl
  | cons x xs ih => simpa [lowL, low] using ih
theorem fracs_low {xs : List Nat} {f g : Nat → Int} : lowL (xs.map fun k => frac (f k) (g k)) = true := by
  induction xs with
  | nil => rfl
  | cons x xs ih => simpa [lowL, low, frac] using ih
theorem by3_up {g : DF} {f : Int → Int → Int → Int → Nat → PV} (hl : ∀ p q c a n, low (f p q c a n) = true) (he : ∀ (p q c a : Int) (n : Nat), okS p q c a n = true → ∃ μ', g [rl p q c, .int a, .int n] [] = .ok (f p q c a n) μ') (as : List PV) (v : PV) (_ : as.length = 3) (hv : by3 f as = some v) : lowL as = true ∧ low v = true ∧ ∃ μ', g as [] = .ok v μ' := by
  unfold by3 at hv
  split at hv
  · rename_i p q c a n _
    split at hv
    · rename_i hk
      cases hv
      have h3 : 0 ≤ n := by have := (okS_of hk).2.2.2.2.2.1; omega
      have e := he p q c a n.toNat (by rw [Int.toNat_of_nonneg h3]; exact hk)
      rw [Int.toNat_of_nonneg h3] at e
      exact ⟨rfl, hl .., e⟩
    · cases hv
  · cases hv
theorem by3L_up {g : DF} {f : Int → Int → Int → Int → Nat → List PV} (hl : ∀ p q c a n, lowL (f p q c a n) = true) (he : ∀ (p q c a : Int) (n : Nat), okS p q c a n = true → ∃ l μ', g [rl p q c, .int a, .int n] [] = .ok (.ref l) μ' ∧ getM μ' l = some (f p q c a n)) (as : List PV) (xs : List PV) (_ : as.length = 3) (hv : by3L f as = some xs) : lowL as = true ∧ lowL xs = true ∧ ∃ l μ', g as [] = .ok (.ref l) μ' ∧ getM μ' l = some xs := by
  unfold by3L at hv
  split at hv
  · rename_i p q c a n _
    split at hv
    · rename_i hk
      cases hv
      have h3 : 0 ≤ n := by have := (okS_of hk).2.2.2.2.2.1; omega
      have e := he p q c a n.toNat (by rw [Int.toNat_of_nonneg h3]; exact hk)
      rw [Int.toNat_of_nonneg h3] at e
      exact ⟨rfl, hl .., e⟩
    · cases hv
  · cases hv
theorem g3 {f : Int → Int → Int → Int → Nat → PV} {p q c a n : Int} {μ : Mu} (hk : okS p q c a n = true) : gV (by3 f) [rl p q c, .int a, .int n] μ = .ok (f p q c a n.toNat) μ := by
  unfold gV by3
  simp only [hk, if_true]
theorem g3L {f : Int → Int → Int → Int → Nat → List PV} {p q c a n : Int} {μ : Mu} (hk : okS p q c a n = true) : gL (by3L f) [rl p q c, .int a, .int n] μ = .ok (.ref μ.length) (μ ++ [.lst (f p q c a n.toNat)]) := by
  unfold gL by3L
  simp only [hk, if_true]
def shares_up := by3_up (g := f_shares) (f := fun p q c a n => .tup (shs p q c a n)) (fun p q c a n => fracs_low) (fun p q c a n hk => by
  obtain ⟨r, h1, h2, h3, h4, h5, h6⟩ := okS_of hk
  obtain ⟨junk, e⟩ := shares_eq (μ := []) r h1 h2 h3 h4 (n := n) (by omega)
  exact ⟨_, e⟩)
theorem needs_eq {p q c a : Int} {μ : Mu} {n : Nat} (hk : okS p q c a n = true) : ∃ l μ', f_needs [rl p q c, .int a, .int n] μ = .ok (.ref l) μ' ∧ getM μ' l = some (nds p q c a n) := by
  obtain ⟨h, h1, h2, ha, hc, h5, h6⟩ := okS_of hk
  unfold f_needs d_needs
  rw [runF_]
  have hal := along_eq (μ := μ) h h1 h2 (n := n) (by omega)
  have g0 : getL (μ ++ [.lst (blks p q c a n)]) μ.length = some (blks p q c a n) := getL_last
  have hcut : cutP (blks p q c a n) (some 1) none = (blks p q c a n).drop 1 := cut_from _ 1
  have gz1 := getL_app (ν := [Ob.lst ((blks p q c a n).drop 1)]) g0
  have gz2 : getL (μ ++ [Ob.lst (blks p q c a n)] ++ [Ob.lst ((blks p q c a n).drop 1)]) (μ ++ [Ob.lst (blks p q c a n)]).length = some ((blks p q c a n).drop 1) := getL_last
  simp only [dSeq_, dAsg_, dIf_, dIfS_, asB_, dTru_, dNotB_, dAndB_, dOrB_, dAnd_, dOr_, dNot_, notT_, byT_t, byT_f, fTru_bl, dOp_, dUn_, dApp_, dCons_, dNil_, dTup_, dLst_, dC_, dVar_0, dVar_1, dVar_2, dVar_3, dVar_4, dVar_5, dVar_6, dVar_7, dVar_S, dCall_, dSkip_, dRet_, dDrop_, R.bind_ok, R.thn_ok, R.nex_ok, seq_nx, seq_rt, toR_rt, toR_nx, gN_, aft_, unB_, unT_bl, Bool.not_true, Bool.not_false, Bool.false_eq_true, if_true, if_false, List.set_cons_succ, List.set_cons_zero, List.map_cons, List.map_nil, List.cons_append, List.nil_append, List.length_cons, List.length_nil, List.replicate_succ, List.replicate_zero, Nat.reduceAdd, Nat.reduceSub, Nat.reduceLeDiff, fAdd_int, fSub_int, hal, dLc_, diZip_, dSl_, dPart_, unI_, dNoPart_, fSl_ref g0, hcut, zipL_ok gz1 gz2]
  generalize e : dLcN _ _ _ _ _ _ _ _ _ = o
  have key : o = .ok (.ref (μ ++ [Ob.lst (blks p q c a n)] ++ [Ob.lst ((blks p q c a n).drop 1)]).length) ((μ ++ [Ob.lst (blks p q c a n)] ++ [Ob.lst ((blks p q c a n).drop 1)]) ++ [Ob.lst (nds p q c a n)]) := by
    rw [← e]
    have hsh : nds p q c a n = ((List.range n).map fun k => PV.tup [pairV (blk p q c a k), pairV (blk p q c a (k + 1))]).map fun x => match x with
      | .tup [.tup [.int b0, .int a0], .tup [.int b1, .int a1]] => .int (if b1 + a1 > b0 + a0 then b1 + a1 else b0 + a0)
      | _ => .non := by
      unfold nds
      rw [List.map_map]
      rfl
    rw [hsh]
    refine lc_map _ (fun acc i => ?_) (by rw [List.length_map, List.length_range]; omega) (fun acc i x hx => ?_)
    · have z1 := getL_app (ν := [Ob.lst acc]) gz1
      have z2 := getL_app (ν := [Ob.lst acc]) gz2
      unfold jZip
      rw [jLst_at z1, jLst_at z2]
      by_cases hi : i < n
      · rw [blks_get _ _ _ _ (by omega), List.getElem?_drop, blks_get _ _ _ _ (by omega), List.getElem?_map, List.getElem?_range hi, Nat.add_comm 1 i]
        rfl
      · have hz : (List.map (fun k => PV.tup [pairV (blk p q c a k), pairV (blk p q c a (k + 1))]) (List.range n))[i]? = none := List.getElem?_eq_none (by rw [List.length_map, List.length_range]; omega)
        rw [List.getElem?_drop, List.getElem?_eq_none (l := blks p q c a n) (i := 1 + i) (by rw [blks_len]; omega), hz]
        cases (blks p q c a n)[i]? <;> rfl
    · rw [List.getElem?_map] at hx
      by_cases hi : i < n
      · rw [List.getElem?_range hi] at hx
        cases hx
        refine ⟨_, rfl, ?_⟩
        simp only [dSeq_, dAsg_, dIf_, dIfS_, asB_, dTru_, dNotB_, dAndB_, dOrB_, dAnd_, dOr_, dNot_, notT_, byT_t, byT_f, fTru_bl, dOp_, dUn_, dApp_, dCons_, dNil_, dTup_, dLst_, dC_, dVar_0, dVar_1, dVar_2, dVar_3, dVar_4, dVar_5, dVar_6, dVar_7, dVar_S, dCall_, dSkip_, dRet_, dDrop_, R.bind_ok, R.thn_ok, R.nex_ok, seq_nx, seq_rt, toR_rt, toR_nx, gN_, aft_, unB_, unT_bl, Bool.not_true, Bool.not_false, Bool.false_eq_true, if_true, if_false, List.set_cons_succ, List.set_cons_zero, List.map_cons, List.map_nil, List.cons_append, List.nil_append, List.length_cons, List.length_nil, List.replicate_succ, List.replicate_zero, Nat.reduceAdd, Nat.reduceSub, Nat.reduceLeDiff, fAdd_int, fSub_int, wipeP, pairV, fSum_two, fMax_two]
      · rw [List.getElem?_eq_none (by simp; omega)] at hx
        cases hx
  rw [key]
  refine ⟨_, _, ?_, getM_last (μ := μ ++ [Ob.lst (blks p q c a n)] ++ [Ob.lst ((blks p q c a n).drop 1)])⟩
  simp only [dSeq_, dAsg_, dIf_, dIfS_, asB_, dTru_, dNotB_, dAndB_, dOrB_, dAnd_, dOr_, dNot_, notT_, byT_t, byT_f, fTru_bl, dOp_, dUn_, dApp_, dCons_, dNil_, dTup_, dLst_, dC_, dVar_0, dVar_1, dVar_2, dVar_3, dVar_4, dVar_5, dVar_6, dVar_7, dVar_S, dCall_, dSkip_, dRet_, dDrop_, R.bind_ok, R.thn_ok, R.nex_ok, seq_nx, seq_rt, toR_rt, toR_nx, gN_, aft_, unB_, unT_bl, Bool.not_true, Bool.not_false, Bool.false_eq_true, if_true, if_false, List.set_cons_succ, List.set_cons_zero, List.map_cons, List.map_nil, List.cons_append, List.nil_append, List.length_cons, List.length_nil, List.replicate_succ, List.replicate_zero, Nat.reduceAdd, Nat.reduceSub, Nat.reduceLeDiff, fAdd_int, fSub_int]
def needs_up := by3L_up (g := f_needs) (f := nds) (fun p q c a n => ints_low) (fun p q c a n hk => needs_eq hk)
theorem jRng_at {μ : Mu} {lo : Int} {n : Nat} (i : Nat) : jRng lo n μ i = some (((List.range n).map fun k => PV.int (lo + (k : Nat)))[i]?) := by
  unfold jRng
  by_cases hi : i < n
  · rw [if_pos hi, List.getElem?_map, List.getElem?_range hi]; rfl
  · rw [if_neg hi, List.getElem?_eq_none (by rw [List.length_map, List.length_range]; omega)]
theorem ends_eq {p q c a : Int} {μ : Mu} {n : Nat} (hk : okS p q c a n = true) : ∃ l μ', f__law_ends [rl p q c, .int a, .int n] μ = .ok (.ref l) μ' ∧ getM μ' l = some (nds p q c a n) := by
  obtain ⟨h, h1, h2, ha, hc, h5, h6⟩ := okS_of hk
  unfold f__law_ends d__law_ends
  rw [runF_]
  have hr := lrows_ok (a := a) (μ := μ) h (n := n) (by omega)
  have gR : getL (μ ++ [Ob.lst (blks p q c a n)]) μ.length = some (blks p q c a n) := getL_last
  simp only [dSeq_, dAsg_, dIf_, dIfS_, asB_, dTru_, dNotB_, dAndB_, dOrB_, dAnd_, dOr_, dNot_, notT_, byT_t, byT_f, fTru_bl, dOp_, dUn_, dApp_, dCons_, dNil_, dTup_, dLst_, dC_, dVar_0, dVar_1, dVar_2, dVar_3, dVar_4, dVar_5, dVar_6, dVar_7, dVar_S, dCall_, dSkip_, dRet_, dDrop_, R.bind_ok, R.thn_ok, R.nex_ok, seq_nx, seq_rt, toR_rt, toR_nx, gN_, aft_, unB_, unT_bl, Bool.not_true, Bool.not_false, Bool.false_eq_true, if_true, if_false, List.set_cons_succ, List.set_cons_zero, List.map_cons, List.map_nil, List.cons_append, List.nil_append, List.length_cons, List.length_nil, List.replicate_succ, List.replicate_zero, Nat.reduceAdd, Nat.reduceSub, Nat.reduceLeDiff, fAdd_int, fSub_int, hr, dLc_, diRng1_, rng1_ok (show (-4611686018427387904 : Int) ≤ n by omega) (show (n : Int) < 4611686018427387904 by omega), Int.toNat_natCast]
  generalize e : dLcN _ _ _ _ _ _ _ _ _ = o
  have key : o = .ok (.ref (μ ++ [Ob.lst (blks p q c a n)]).length) ((μ ++ [Ob.lst (blks p q c a n)]) ++ [Ob.lst (nds p q c a n)]) := by
    rw [← e]
    have hsh : nds p q c a n = ((List.range n).map fun k => PV.int (0 + (k : Nat))).map fun x => match x with
      | .int k => .int (tpS p q c a k.toNat)
      | _ => .non := by
      unfold nds
      rw [List.map_map]
      exact List.map_congr_left fun k _ => by simp
    rw [hsh]
    refine lc_map _ (fun acc i => jRng_at i) (by rw [List.length_map, List.length_range]; omega) (fun acc i x hx => ?_)
    have hi : i < n := by
      have := (List.getElem?_eq_some_iff.mp hx).1
      rwa [List.length_map, List.length_range] at this
    rw [List.getElem?_map, List.getElem?_range hi] at hx
    cases hx
    have z := getL_app (ν := [Ob.lst acc]) gR
    have a0 : atI (blks p q c a n) ((0 : Int) + i) = some (pairV (blk p q c a i)) := by rw [Int.zero_add]; exact atI_k (blks_get _ _ _ _ (by omega))
    have a1 : atI (blks p q c a n) ((0 : Int) + i + 1) = some (pairV (blk p q c a (i + 1))) := by
      rw [show (0 : Int) + i + 1 = ((i + 1 : Nat) : Int) by omega]
      exact atI_k (blks_get _ _ _ _ (by omega))
    refine ⟨_, rfl, ?_⟩
    have ht : ((0 : Int) + i).toNat = i := by omega
    simp only [dSeq_, dAsg_, dIf_, dIfS_, asB_, dTru_, dNotB_, dAndB_, dOrB_, dAnd_, dOr_, dNot_, notT_, byT_t, byT_f, fTru_bl, dOp_, dUn_, dApp_, dCons_, dNil_, dTup_, dLst_, dC_, dVar_0, dVar_1, dVar_2, dVar_3, dVar_4, dVar_5, dVar_6, dVar_7, dVar_S, dCall_, dSkip_, dRet_, dDrop_, R.bind_ok, R.thn_ok, R.nex_ok, seq_nx, seq_rt, toR_rt, toR_nx, gN_, aft_, unB_, unT_bl, Bool.not_true, Bool.not_false, Bool.false_eq_true, if_true, if_false, List.set_cons_succ, List.set_cons_zero, List.map_cons, List.map_nil, List.cons_append, List.nil_append, List.length_cons, List.length_nil, List.replicate_succ, List.replicate_zero, Nat.reduceAdd, Nat.reduceSub, Nat.reduceLeDiff, fAdd_int, fSub_int, wipeP, fIx_ref z a0, fIx_ref z a1, pairV, fIx_tup0, fIx_tup1, fMax_two, ht, tpS]
  rw [key]
  refine ⟨_, _, ?_, getM_last (μ := μ ++ [Ob.lst (blks p q c a n)])⟩
  simp only [dSeq_, dAsg_, dIf_, dIfS_, asB_, dTru_, dNotB_, dAndB_, dOrB_, dAnd_, dOr_, dNot_, notT_, byT_t, byT_f, fTru_bl, dOp_, dUn_, dApp_, dCons_, dNil_, dTup_, dLst_, dC_, dVar_0, dVar_1, dVar_2, dVar_3, dVar_4, dVar_5, dVar_6, dVar_7, dVar_S, dCall_, dSkip_, dRet_, dDrop_, R.bind_ok, R.thn_ok, R.nex_ok, seq_nx, seq_rt, toR_rt, toR_nx, gN_, aft_, unB_, unT_bl, Bool.not_true, Bool.not_false, Bool.false_eq_true, if_true, if_false, List.set_cons_succ, List.set_cons_zero, List.map_cons, List.map_nil, List.cons_append, List.nil_append, List.length_cons, List.length_nil, List.replicate_succ, List.replicate_zero, Nat.reduceAdd, Nat.reduceSub, Nat.reduceLeDiff, fAdd_int, fSub_int]
def ends_up := by3L_up (g := f__law_ends) (f := nds) (fun p q c a n => ints_low) (fun p q c a n hk => ends_eq hk)
end GB
set_option Elab.async false
set_option linter.all false
set_option maxRecDepth 100000
set_option maxHeartbeats 4000000
namespace GB
open PySem PySem.Spec PyProof.Rows L2
end GB
set_option Elab.async false
set_option linter.all false
set_option maxRecDepth 100000
set_option maxHeartbeats 2000000
namespace GB
open PySem L2
theorem parts_eq {p q c a : Int} {μ : Mu} {n : Nat} (hk : okS p q c a n = true) : ∃ l μ', f__law_parts [rl p q c, .int a, .int n] μ = .ok (.ref l) μ' ∧ getM μ' l = some (shs p q c a n) := by
  obtain ⟨h, h1, h2, ha, hc, h5, h6⟩ := okS_of hk
  unfold f__law_parts d__law_parts
  rw [runF_]
  have hr := lrows_ok (a := a) (μ := μ) h (n := n) (by omega)
  have he : gL needsF [rl p q c, .int a, .int n] (μ ++ [Ob.lst (blks p q c a n)]) = .ok (.ref (μ ++ [Ob.lst (blks p q c a n)]).length) (μ ++ [Ob.lst (blks p q c a n)] ++ [.lst (nds p q c a n)]) := g3L hk
  have gR : getL (μ ++ [Ob.lst (blks p q c a n)] ++ [.lst (nds p q c a n)]) μ.length = some (blks p q c a n) := getL_app getL_last
  have gE : getL (μ ++ [Ob.lst (blks p q c a n)] ++ [.lst (nds p q c a n)]) (μ ++ [Ob.lst (blks p q c a n)]).length = some (nds p q c a n) := getL_last
  simp only [dSeq_, dAsg_, dIf_, dIfS_, asB_, dTru_, dNotB_, dAndB_, dOrB_, dAnd_, dOr_, dNot_, notT_, byT_t, byT_f, fTru_bl, dOp_, dUn_, dApp_, dCons_, dNil_, dTup_, dLst_, dC_, dVar_0, dVar_1, dVar_2, dVar_3, dVar_4, dVar_5, dVar_6, dVar_7, dVar_S, dCall_, dSkip_, dRet_, dDrop_, R.bind_ok, R.thn_ok, R.nex_ok, seq_nx, seq_rt, toR_rt, toR_nx, gN_, aft_, unB_, unT_bl, Bool.not_true, Bool.not_false, Bool.false_eq_true, if_true, if_false, List.set_cons_succ, List.set_cons_zero, List.map_cons, List.map_nil, List.cons_append, List.nil_append, List.length_cons, List.length_nil, List.replicate_succ, List.replicate_zero, Nat.reduceAdd, Nat.reduceSub, Nat.reduceLeDiff, fAdd_int, fSub_int, hr, he, gT_, gsC_, gsN_, dLc_, diRng1_, rng1_ok (show (-4611686018427387904 : Int) ≤ n by omega) (show (n : Int) < 4611686018427387904 by omega), Int.toNat_natCast]
  generalize (μ ++ [Ob.lst (blks p q c a n)] ++ [.lst (nds p q c a n)]) = μ1 at *
  generalize e : dLcN _ _ _ _ _ _ _ _ _ = o
  have key : o = .ok (.ref μ1.length) (μ1 ++ [Ob.lst (shs p q c a n)]) := by
    rw [← e]
    have hsh : shs p q c a n = ((List.range n).map fun k => PV.int (0 + (k : Nat))).map fun x => match x with
      | .int k => frac (tpS p q c a k.toNat) (blk p q c a (k.toNat + 1)).2
      | _ => .non := by
      unfold shs
      rw [List.map_map]
      exact List.map_congr_left fun k _ => by simp
    rw [hsh]
    refine lc_map _ (fun acc i => jRng_at i) (by rw [List.length_map, List.length_range]; omega) (fun acc i x hx => ?_)
    have hi : i < n := by
      have := (List.getElem?_eq_some_iff.mp hx).1
      rwa [List.length_map, List.length_range] at this
    rw [List.getElem?_map, List.getElem?_range hi] at hx
    cases hx
    have z := getL_app (ν := [Ob.lst acc]) gR
    have z2 := getL_app (ν := [Ob.lst acc]) gE
    have a0 : atI (nds p q c a n) ((0 : Int) + i) = some (.int (tpS p q c a i)) := by
      rw [Int.zero_add]
      exact atI_k (by unfold nds; rw [List.getElem?_map, List.getElem?_range hi]; rfl)
    have a1 : atI (blks p q c a n) ((0 : Int) + i + 1) = some (pairV (blk p q c a (i + 1))) := by
      rw [show (0 : Int) + i + 1 = ((i + 1 : Nat) : Int) by omega]
      exact atI_k (blks_get _ _ _ _ (by omega))
    obtain ⟨c1, c2⟩ := tp_lt h h1 h2 ha hc (k := i) (by omega)
    obtain ⟨_, _, c3, c4⟩ := sum_lt h h1 h2 ha hc (k := i + 1) (by omega)
    have hf := fun μ => lpart_eq (μ := μ) c1 c3 c2 c4 (by decide) (by decide)
    refine ⟨_, rfl, ?_⟩
    have ht : ((0 : Int) + i).toNat = i := by omega
    simp only [dSeq_, dAsg_, dIf_, dIfS_, asB_, dTru_, dNotB_, dAndB_, dOrB_, dAnd_, dOr_, dNot_, notT_, byT_t, byT_f, fTru_bl, dOp_, dUn_, dApp_, dCons_, dNil_, dTup_, dLst_, dC_, dVar_0, dVar_1, dVar_2, dVar_3, dVar_4, dVar_5, dVar_6, dVar_7, dVar_S, dCall_, dSkip_, dRet_, dDrop_, R.bind_ok, R.thn_ok, R.nex_ok, seq_nx, seq_rt, toR_rt, toR_nx, gN_, aft_, unB_, unT_bl, Bool.not_true, Bool.not_false, Bool.false_eq_true, if_true, if_false, List.set_cons_succ, List.set_cons_zero, List.map_cons, List.map_nil, List.cons_append, List.nil_append, List.length_cons, List.length_nil, List.replicate_succ, List.replicate_zero, Nat.reduceAdd, Nat.reduceSub, Nat.reduceLeDiff, fAdd_int, fSub_int, wipeP, fIx_ref z2 a0, fIx_ref z a1, pairV, fIx_tup0, fIx_tup1, ht, hf, frac]
  rw [key]
  refine ⟨_, _, ?_, getM_last (μ := μ1)⟩
  simp only [dSeq_, dAsg_, dIf_, dIfS_, asB_, dTru_, dNotB_, dAndB_, dOrB_, dAnd_, dOr_, dNot_, notT_, byT_t, byT_f, fTru_bl, dOp_, dUn_, dApp_, dCons_, dNil_, dTup_, dLst_, dC_, dVar_0, dVar_1, dVar_2, dVar_3, dVar_4, dVar_5, dVar_6, dVar_7, dVar_S, dCall_, dSkip_, dRet_, dDrop_, R.bind_ok, R.thn_ok, R.nex_ok, seq_nx, seq_rt, toR_rt, toR_nx, gN_, aft_, unB_, unT_bl, Bool.not_true, Bool.not_false, Bool.false_eq_true, if_true, if_false, List.set_cons_succ, List.set_cons_zero, List.map_cons, List.map_nil, List.cons_append, List.nil_append, List.length_cons, List.length_nil, List.replicate_succ, List.replicate_zero, Nat.reduceAdd, Nat.reduceSub, Nat.reduceLeDiff, fAdd_int, fSub_int]
def parts_up := by3L_up (g := f__law_parts) (f := shs) (fun p q c a n => fracs_low) (fun p q c a n hk => parts_eq hk)
theorem drop_list {α : Type} {f : Nat → α} {n : Nat} : ((List.range (n + 1)).map f).drop 1 = (List.range n).map fun k => f (k + 1) := by
  rw [List.range_succ_eq_map, List.map_cons, List.drop_succ_cons, List.drop_zero, List.map_map]
  rfl
theorem blks_drop (p q c a : Int) (n : Nat) : (blks p q c a n).drop 1 = (List.range n).map fun k => pairV (blk p q c a (k + 1)) := drop_list
def fstZ (x : PV) : PV := match x with
  | .tup [.int b, _] => .bl (decide (b = 0))
  | _ => .non
theorem bks_of (p q c a : Int) (n : Nat) : bks p q c a n = ((blks p q c a n).drop 1).map fstZ := by
  rw [blks_drop, List.map_map]; rfl
theorem mem_pair {f : Nat → Int × Int} {n : Nat} {i : Nat} {x : PV} (hx : ((List.range n).map fun k => pairV (f k))[i]? = some x) : ∃ u v, x = .tup [.int u, .int v] := by
  obtain ⟨k, _, rfl⟩ := List.mem_map.mp (List.mem_of_getElem? hx)
  exact ⟨_, _, rfl⟩
theorem backs_eq {p q c a : Int} {μ : Mu} {n : Nat} (hk : okS p q c a n = true) : ∃ μ', f_backs_read [rl p q c, .int a, .int n] μ = .ok (.tup (bks p q c a n)) μ' := by
  obtain ⟨h, h1, h2, ha, hc, h5, h6⟩ := okS_of hk
  unfold f_backs_read d_backs_read
  rw [runF_]
  have hal := along_eq (μ := μ) h h1 h2 (n := n) (by omega)
  have g0 : getL (μ ++ [Ob.lst (blks p q c a n)]) μ.length = some (blks p q c a n) := getL_last
  have hcut : cutP (blks p q c a n) (some 1) none = (blks p q c a n).drop 1 := cut_from _ 1
  have g1 : getL (μ ++ [Ob.lst (blks p q c a n)] ++ [Ob.lst ((blks p q c a n).drop 1)]) (μ ++ [Ob.lst (blks p q c a n)]).length = some ((blks p q c a n).drop 1) := getL_last
  simp only [dSeq_, dAsg_, dIf_, dIfS_, asB_, dTru_, dNotB_, dAndB_, dOrB_, dAnd_, dOr_, dNot_, notT_, byT_t, byT_f, fTru_bl, dOp_, dUn_, dApp_, dCons_, dNil_, dTup_, dLst_, dC_, dVar_0, dVar_1, dVar_2, dVar_3, dVar_4, dVar_5, dVar_6, dVar_7, dVar_S, dCall_, dSkip_, dRet_, dDrop_, R.bind_ok, R.thn_ok, R.nex_ok, seq_nx, seq_rt, toR_rt, toR_nx, gN_, aft_, unB_, unT_bl, Bool.not_true, Bool.not_false, Bool.false_eq_true, if_true, if_false, List.set_cons_succ, List.set_cons_zero, List.map_cons, List.map_nil, List.cons_append, List.nil_append, List.length_cons, List.length_nil, List.replicate_succ, List.replicate_zero, Nat.reduceAdd, Nat.reduceSub, Nat.reduceLeDiff, fAdd_int, fSub_int, hal, dLc_, diSeq_, dSl_, dPart_, unI_, dNoPart_, fSl_ref g0, hcut, jSeq_ref g1]
  generalize (μ ++ [Ob.lst (blks p q c a n)] ++ [Ob.lst ((blks p q c a n).drop 1)]) = μ1 at *
  generalize (μ ++ [Ob.lst (blks p q c a n)]).length = l1 at *
  generalize e : dLcN _ _ _ _ _ _ _ _ _ = o
  have key : o = .ok (.ref μ1.length) (μ1 ++ [Ob.lst (bks p q c a n)]) := by
    rw [← e, bks_of]
    refine lc_map _ (fun acc i => jLst_at (getL_app g1) i) (by rw [blks_drop, List.length_map, List.length_range]; omega) (fun acc i x hx => ?_)
    rw [blks_drop] at hx
    obtain ⟨u, v, rfl⟩ := mem_pair hx
    refine ⟨_, rfl, ?_⟩
    simp only [dSeq_, dAsg_, dIf_, dIfS_, asB_, dTru_, dNotB_, dAndB_, dOrB_, dAnd_, dOr_, dNot_, notT_, byT_t, byT_f, fTru_bl, dOp_, dUn_, dApp_, dCons_, dNil_, dTup_, dLst_, dC_, dVar_0, dVar_1, dVar_2, dVar_3, dVar_4, dVar_5, dVar_6, dVar_7, dVar_S, dCall_, dSkip_, dRet_, dDrop_, R.bind_ok, R.thn_ok, R.nex_ok, seq_nx, seq_rt, toR_rt, toR_nx, gN_, aft_, unB_, unT_bl, Bool.not_true, Bool.not_false, Bool.false_eq_true, if_true, if_false, List.set_cons_succ, List.set_cons_zero, List.map_cons, List.map_nil, List.cons_append, List.nil_append, List.length_cons, List.length_nil, List.replicate_succ, List.replicate_zero, Nat.reduceAdd, Nat.reduceSub, Nat.reduceLeDiff, fAdd_int, fSub_int, wipeP, fEq_int, fstZ]
  rw [key]
  have gk := getL_last (μ := μ1) (acc := bks p q c a n)
  simp only [dSeq_, dAsg_, dIf_, dIfS_, asB_, dTru_, dNotB_, dAndB_, dOrB_, dAnd_, dOr_, dNot_, notT_, byT_t, byT_f, fTru_bl, dOp_, dUn_, dApp_, dCons_, dNil_, dTup_, dLst_, dC_, dVar_0, dVar_1, dVar_2, dVar_3, dVar_4, dVar_5, dVar_6, dVar_7, dVar_S, dCall_, dSkip_, dRet_, dDrop_, R.bind_ok, R.thn_ok, R.nex_ok, seq_nx, seq_rt, toR_rt, toR_nx, gN_, aft_, unB_, unT_bl, Bool.not_true, Bool.not_false, Bool.false_eq_true, if_true, if_false, List.set_cons_succ, List.set_cons_zero, List.map_cons, List.map_nil, List.cons_append, List.nil_append, List.length_cons, List.length_nil, List.replicate_succ, List.replicate_zero, Nat.reduceAdd, Nat.reduceSub, Nat.reduceLeDiff, fAdd_int, fSub_int, fTuple_ref gk]
  exact ⟨_, rfl⟩
def backs_up := by3_up (g := f_backs_read) (f := fun p q c a n => .tup (bks p q c a n)) (fun p q c a n => bls_low) (fun p q c a n hk => backs_eq hk)
end GB
set_option Elab.async false
set_option linter.all false
set_option maxRecDepth 100000
set_option maxHeartbeats 4000000
namespace GB
open PySem PySem.Spec PyProof.Rows L2
end GB
set_option Elab.async false
set_option linter.all false
set_option maxRecDepth 100000
set_option maxHeartbeats 2000000
namespace GB
open PySem L2
theorem tupled_int {n : Nat} {i : Int} {μ : Mu} : f_tupled (n + 1) [.int i] μ = .ok (.int i) μ := by
  simp [f_tupled, d_tupled, runF_, fIsiL, tyN, isTyL, isTy]
theorem tupled_ints {n : Nat} {xs : List PV} {μ : Mu} (hx : ∀ x ∈ xs, ∃ i, x = .int i) (hn : xs.length < 16777216) : f_tupled (n + 2) [.tup xs] μ = .ok (.tup xs) (μ ++ [.lst xs]) := by
  have key := lc_map (j := jTup xs) (g := gcN 1) (items := xs) (te := dCall 1 (f_tupled (n + 1)) (dCons (dVar 1) dNil)) (ρ := wipeP [some (.tup xs), none] [1]) id (μ := μ) (fun acc i => rfl) hn (fun acc i x hxi => by
    obtain ⟨k, rfl⟩ := hx x (List.mem_of_getElem? hxi)
    refine ⟨_, rfl, ?_⟩
    simp [wipeP, tupled_int])
  rw [List.map_id] at key
  rw [show f_tupled (n + 2) = runF 2 (d_tupled (f_tupled (n + 1))) from rfl]
  unfold d_tupled
  rw [runF_]
  simp [fIsiL, tyN, isTyL, isTy]
  rw [key]
  simp [fTuple_ref getL_last]
end GB
set_option Elab.async false
set_option linter.all false
set_option maxRecDepth 100000
set_option maxHeartbeats 4000000
namespace GB
open PySem PySem.Spec PyProof.Rows L2
end GB
set_option Elab.async false
set_option linter.all false
set_option maxRecDepth 100000
set_option maxHeartbeats 2000000
namespace GB
open PySem L2
theorem ints_toD {μ : Mu} : ∀ (ns : List Int) (n : Nat), ns.length + 2 ≤ n → toDL μ n (ns.map .int) = some (ns.map PyData.int)
  | [], n + 1, _ => by simp [toDL]
  | i :: ns, n + 2, h => by
    have := ints_toD (μ := μ) ns (n + 1) (by simp at h ⊢; omega)
    simp only [List.map_cons, toDL, toD, Option.bind_some, this, Option.map_some]
theorem ints_lay : ∀ (ns : List Int), PyData.canLayAll0 (ns.map PyData.int) = true
  | [] => rfl
  | b :: bs => by simp [PyData.canLayAll0, PyData.canLay0, ints_lay bs]
theorem ints_depth : ∀ (ns : List Int), PyData.depthAll (ns.map PyData.int) = 0
  | [] => by simp [PyData.depthAll]
  | b :: bs => by simp [PyData.depthAll, PyData.depth, ints_depth bs]
theorem eqB_ints {μ : Mu} {ns : List Int} (h : ns.length ≤ 900) : eqB (.tup (ns.map .int)) (.tup (ns.map .int)) μ = some true := by
  have e : toD μ 1000 (.tup (ns.map .int)) = some (.tuple (ns.map .int)) := by
    show (toDL μ 999 (ns.map .int)).map _ = _
    rw [ints_toD ns 999 (by omega)]; rfl
  have hl : PyData.canLay0 (.tuple (ns.map .int)) = true := by simp only [PyData.canLay0, ints_lay]
  have hs : SeqAt.shaped (.tuple (ns.map .int)) = true := by
    have := ints_depth ns
    unfold SeqAt.shaped
    rw [hl, Bool.true_and, decide_eq_true_eq]
    show PyData.depthAll (ns.map .int) + 1 ≤ 64
    omega
  unfold eqB
  simp only [e, hs, Bool.and_self, if_true, SeqAt.eqv_refl _ hl]
theorem fEq_ints {μ : Mu} {ns : List Int} (h : ns.length ≤ 900) : fEq (.tup (ns.map .int)) (.tup (ns.map .int)) μ = .ok (.bl true) μ := by
  unfold fEq; rw [eqB_ints h]
theorem allI_inv : ∀ {xs : List PV} {ns : List Int}, allI xs = some ns → xs = ns.map .int
  | [], ns, h => by simp [allI] at h; subst h; rfl
  | .int i :: r, ns, h => by
    simp only [allI] at h
    cases q : allI r with
    | none => rw [q] at h; cases h
    | some l => rw [q] at h; cases h; rw [allI_inv q]; rfl
  | .non :: _, _, h => by simp [allI] at h
  | .bl _ :: _, _, h => by simp [allI] at h
  | .str _ :: _, _, h => by simp [allI] at h
  | .tup _ :: _, _, h => by simp [allI] at h
  | .ref _ :: _, _, h => by simp [allI] at h
  | .raw _ :: _, _, h => by simp [allI] at h
theorem allI_map (ns : List Int) : allI (ns.map .int) = some ns := by
  induction ns with
  | nil => rfl
  | cons n ns ih => simp [allI, ih]
theorem intT_map (ns : List Int) : intT (ns.map .int) = true := by
  induction ns with
  | nil => rfl
  | cons n ns ih => simpa [intT] using ih
theorem intT_mem : ∀ {xs : List PV}, intT xs = true → (∀ x ∈ xs, ∃ i, x = .int i) ∧ lowL xs = true
  | [], _ => ⟨by simp, rfl⟩
  | .int i :: r, h => by
    have := intT_mem (xs := r) h
    refine ⟨fun x hx => ?_, by simpa [lowL, low] using this.2⟩
    rcases List.mem_cons.mp hx with z | z
    · exact ⟨i, z⟩
    · exact this.1 x z
  | .non :: _, h => by simp [intT] at h
  | .bl _ :: _, h => by simp [intT] at h
  | .str _ :: _, h => by simp [intT] at h
  | .tup _ :: _, h => by simp [intT] at h
  | .ref _ :: _, h => by simp [intT] at h
  | .raw _ :: _, h => by simp [intT] at h
theorem fMax_ref {μ : Mu} {l : Nat} {ns : List Int} (h : getL μ l = some (ns.map .int)) (hn : 0 < ns.length) : fMax [.ref l] μ = .ok (.int (mxL ns)) μ := by
  unfold fMax
  simp only [h, Option.bind_some, allI_map]
  cases ns with
  | nil => simp at hn
  | cons n ns => rfl
theorem tup_up (as : List PV) (v : PV) (_ : as.length = 1) (hv : tupF as = some v) : lowL as = true ∧ low v = true ∧ ∃ μ', f_tupled 8 as [] = .ok v μ' := by
  unfold tupF at hv
  split at hv
  · split at hv
    · rename_i xs _ hk
      cases hv
      rw [Bool.and_eq_true, decide_eq_true_eq] at hk
      obtain ⟨h1, h2⟩ := intT_mem hk.1
      exact ⟨by simpa [lowL, low] using h2, by simpa [low] using h2, _, tupled_ints h1 (by omega)⟩
    · cases hv
  · cases hv
theorem gtup {μ : Mu} {ns : List Int} (h : ns.length < 1000000) : gV tupF [.tup (ns.map .int)] μ = .ok (.tup (ns.map .int)) μ := by
  unfold gV tupF
  simp only [intT_map, List.length_map, decide_eq_true h, Bool.and_self, if_true]
end GB
set_option Elab.async false
set_option linter.all false
set_option maxRecDepth 100000
set_option maxHeartbeats 4000000
namespace GB
open PySem PySem.Spec PyProof.Rows L2
end GB
set_option Elab.async false
set_option linter.all false
set_option maxRecDepth 100000
set_option maxHeartbeats 2000000
namespace GB
open PySem L2
theorem nds_succ (p q c a : Int) (n : Nat) : nds p q c a (n + 1) = nds p q c a n ++ [.int (tpS p q c a n)] := by
  unfold nds; rw [List.range_succ, List.map_append]; rfl
theorem nds_tps (p q c a : Int) (n : Nat) : nds p q c a n = (tps p q c a n).map .int := by
  unfold nds tps; rw [List.map_map]; rfl
theorem tps_len (p q c a : Int) (n : Nat) : (tps p q c a n).length = n := by simp [tps]
theorem nds_last {p q c a : Int} {n : Nat} (hn : 1 ≤ n) : atI (nds p q c a n) (-1) = some (.int (tpS p q c a (n - 1))) := by
  obtain ⟨m, rfl⟩ := Nat.exists_eq_add_of_le hn
  rw [Nat.add_comm, nds_succ]
  exact atI_last _ _
theorem cells_eq {p q c a : Int} {μ : Mu} {n : Nat} (hk : okS p q c a n = true) : ∃ μ', f_cells_needed [rl p q c, .int a, .int n] μ = .ok (.int (tpS p q c a (n - 1))) μ' := by
  have hg : gL needsF [rl p q c, .int a, .int n] μ = .ok (.ref μ.length) (μ ++ [.lst (nds p q c a n)]) := g3L hk
  have h5 := (okS_of hk).2.2.2.2.2.1
  have hix := fIx_ref (getL_last (μ := μ) (acc := nds p q c a n)) (nds_last (p := p) (q := q) (c := c) (a := a) (n := n) (by omega))
  unfold f_cells_needed d_cells_needed
  rw [runF_]
  simp only [dSeq_, dAsg_, dIf_, dIfS_, asB_, dTru_, dNotB_, dAndB_, dOrB_, dAnd_, dOr_, dNot_, notT_, byT_t, byT_f, fTru_bl, dOp_, dUn_, dApp_, dCons_, dNil_, dTup_, dLst_, dC_, dVar_0, dVar_1, dVar_2, dVar_3, dVar_4, dVar_5, dVar_6, dVar_7, dVar_S, dCall_, dSkip_, dRet_, dDrop_, R.bind_ok, R.thn_ok, R.nex_ok, seq_nx, seq_rt, toR_rt, toR_nx, gN_, aft_, unB_, unT_bl, Bool.not_true, Bool.not_false, Bool.false_eq_true, if_true, if_false, List.set_cons_succ, List.set_cons_zero, List.map_cons, List.map_nil, List.cons_append, List.nil_append, List.length_cons, List.length_nil, List.replicate_succ, List.replicate_zero, Nat.reduceAdd, Nat.reduceSub, Nat.reduceLeDiff, fAdd_int, fSub_int, hg, fNeg_int, hix]
  exact ⟨_, rfl⟩
def cells_up := by3_up (g := f_cells_needed) (f := fun p q c a n => .int (tpS p q c a (n - 1))) (fun p q c a n => rfl) (fun p q c a n hk => cells_eq hk)
theorem tps_ge {p q c a : Int} {n : Nat} (hn : 1 ≤ n) : mxL (a :: tps p q c a n) = mxL (tps p q c a n) := by
  obtain ⟨m, rfl⟩ := Nat.exists_eq_add_of_le hn
  have e : tps p q c a (1 + m) = tpS p q c a 0 :: (List.range m).map fun k => tpS p q c a (k + 1) := by
    unfold tps
    rw [Nat.add_comm, List.range_succ_eq_map, List.map_cons, List.map_map]; rfl
  rw [e]
  have h0 : a ≤ tpS p q c a 0 := by
    have hb : blk p q c a 0 = (0, a) := rfl
    unfold tpS
    rw [hb]
    split
    · simp only at *; omega
    · simp
  show maxI (if a < tpS p q c a 0 then tpS p q c a 0 else a) _ = maxI (tpS p q c a 0) _
  by_cases z : a < tpS p q c a 0
  · rw [if_pos z]
  · rw [if_neg z]; congr 1; omega
theorem mark_eq {p q c a : Int} {μ : Mu} {n : Nat} (hk : okS p q c a n = true) : ∃ μ', f_mark_of [rl p q c, .int a, .int n] μ = .ok (.int (mxL (tps p q c a n))) μ' := by
  have hg : gL needsF [rl p q c, .int a, .int n] μ = .ok (.ref μ.length) (μ ++ [.lst (nds p q c a n)]) := g3L hk
  have h5 := (okS_of hk).2.2.2.2.2.1
  have h6 := (okS_of hk).2.2.2.2.2.2
  have g0 := getL_last (μ := μ) (acc := nds p q c a n)
  have hm := fMax_ref (ns := a :: tps p q c a n) (getL_last (μ := μ ++ [Ob.lst (nds p q c a n)]) (acc := (a :: tps p q c a n).map .int)) (by simp)
  rw [tps_ge (by omega)] at hm
  rw [List.map_cons, ← nds_tps] at hm
  have hl : (nds p q c a n).length + 1 ≤ 16777216 := by rw [nds_tps, List.length_map, tps_len]; omega
  unfold f_mark_of d_mark_of
  rw [runF_]
  simp only [dSeq_, dAsg_, dIf_, dIfS_, asB_, dTru_, dNotB_, dAndB_, dOrB_, dAnd_, dOr_, dNot_, notT_, byT_t, byT_f, fTru_bl, dOp_, dUn_, dApp_, dCons_, dNil_, dTup_, dLst_, dC_, dVar_0, dVar_1, dVar_2, dVar_3, dVar_4, dVar_5, dVar_6, dVar_7, dVar_S, dCall_, dSkip_, dRet_, dDrop_, R.bind_ok, R.thn_ok, R.nex_ok, seq_nx, seq_rt, toR_rt, toR_nx, gN_, aft_, unB_, unT_bl, Bool.not_true, Bool.not_false, Bool.false_eq_true, if_true, if_false, List.set_cons_succ, List.set_cons_zero, List.map_cons, List.map_nil, List.cons_append, List.nil_append, List.length_cons, List.length_nil, List.replicate_succ, List.replicate_zero, Nat.reduceAdd, Nat.reduceSub, Nat.reduceLeDiff, fAdd_int, fSub_int, dStar, hg, g0, List.append_nil, hl, hm]
  exact ⟨_, rfl⟩
def mark_up := by3_up (g := f_mark_of) (f := fun p q c a n => .int (mxL (tps p q c a n))) (fun p q c a n => rfl) (fun p q c a n hk => mark_eq hk)
end GB
set_option Elab.async false
set_option linter.all false
set_option maxRecDepth 100000
set_option maxHeartbeats 4000000
namespace GB
open PySem PySem.Spec PyProof.Rows L2
end GB
set_option Elab.async false
set_option linter.all false
set_option maxRecDepth 100000
set_option maxHeartbeats 2000000
namespace GB
open PySem L2
theorem linI_len (p q c a : Int) (n : Nat) : (linI p q c a n).length = n := by simp [linI]
theorem lin_of (p q c a : Int) (n : Nat) : (linI p q c a n).map PV.int = ((blks p q c a n).drop 1).map fun x => match x with
    | .tup [.int b, _] => PV.int b
    | _ => .non := by
  rw [blks_drop, List.map_map]
  unfold linI
  rw [List.map_map]; rfl
theorem read_up (as : List PV) (v : PV) (_ : as.length = 2) (hv : readF as = some v) : lowL as = true ∧ low v = true ∧ ∃ μ', f_is_read_by as [] = .ok v μ' := by
  unfold readF at hv
  split at hv
  · rename_i p q c xs _
    split at hv
    · rename_i a r hx
      split at hv
      · rename_i hk
        cases hv
        rw [Bool.and_eq_true, decide_eq_true_eq] at hk
        obtain ⟨hk, hlin⟩ := hk
        obtain ⟨h, h1, h2, ha, hc, h5, h6⟩ := okS_of hk
        have hxs := allI_inv hx
        refine ⟨?_, rfl, ?_⟩
        · have := (intT_mem (intT_map (a :: r))).2
          rw [hxs]
          simpa [lowL, low] using this
        · generalize hμ : ([] : Mu) = μ
          have hl := linI_len p q c a 12
          have ht := gtup (μ := μ) (ns := a :: r) (by rw [hlin, hl]; decide)
          have hal := along_eq (μ := μ) h h1 h2 (n := 12) (by omega)
          have g0 : getL (μ ++ [Ob.lst (blks p q c a 12)]) μ.length = some (blks p q c a 12) := getL_last
          have hcut : cutP (blks p q c a 12) (some 1) none = (blks p q c a 12).drop 1 := cut_from _ 1
          have g1 : getL (μ ++ [Ob.lst (blks p q c a 12)] ++ [Ob.lst ((blks p q c a 12).drop 1)]) (μ ++ [Ob.lst (blks p q c a 12)]).length = some ((blks p q c a 12).drop 1) := getL_last
          have hlen : xs.length = 12 := by rw [hxs, List.length_map, hlin, hl]
          have hal' : f_blocks_along [rl p q c, .int a, .int 12] μ = .ok (.ref μ.length) (μ ++ [Ob.lst (blks p q c a 12)]) := hal
          have h0 : atI xs 0 = some (.int a) := by rw [hxs]; exact atI_0
          have hne : fEq (.int 12) (.int 0) μ = .ok (.bl false) μ := rfl
          have hln : fLen [.tup xs] μ = .ok (.int 12) μ := by simp [hlen]
          rw [← hxs] at ht
          unfold f_is_read_by d_is_read_by
          rw [runF_]
          simp only [dSeq_, dAsg_, dIf_, dIfS_, asB_, dTru_, dNotB_, dAndB_, dOrB_, dAnd_, dOr_, dNot_, notT_, byT_t, byT_f, fTru_bl, dOp_, dUn_, dApp_, dCons_, dNil_, dTup_, dLst_, dC_, dVar_0, dVar_1, dVar_2, dVar_3, dVar_4, dVar_5, dVar_6, dVar_7, dVar_S, dCall_, dSkip_, dRet_, dDrop_, R.bind_ok, R.thn_ok, R.nex_ok, seq_nx, seq_rt, toR_rt, toR_nx, gN_, aft_, unB_, unT_bl, Bool.not_true, Bool.not_false, Bool.false_eq_true, if_true, if_false, List.set_cons_succ, List.set_cons_zero, List.map_cons, List.map_nil, List.cons_append, List.nil_append, List.length_cons, List.length_nil, List.replicate_succ, List.replicate_zero, Nat.reduceAdd, Nat.reduceSub, Nat.reduceLeDiff, fAdd_int, fSub_int, ht, hln, hne, fIx_tup h0, start_eq h h1 h2, hal', dLc_, diSeq_, dSl_, dPart_, unI_, dNoPart_, fSl_ref g0, hcut, jSeq_ref g1]
          generalize μ ++ [Ob.lst (blks p q c a 12)] ++ [Ob.lst ((blks p q c a 12).drop 1)] = μ1 at *
          generalize (μ ++ [Ob.lst (blks p q c a 12)]).length = l1 at *
          generalize e : dLcN _ _ _ _ _ _ _ _ _ = o
          have key : o = .ok (.ref μ1.length) (μ1 ++ [Ob.lst ((linI p q c a 12).map PV.int)]) := by
            rw [← e, lin_of]
            refine lc_map _ (fun acc i => jLst_at (getL_app g1) i) (by rw [blks_drop, List.length_map, List.length_range]; omega) (fun acc i x hx => ?_)
            rw [blks_drop] at hx
            obtain ⟨u, v, rfl⟩ := mem_pair hx
            refine ⟨_, rfl, ?_⟩
            simp only [dSeq_, dAsg_, dIf_, dIfS_, asB_, dTru_, dNotB_, dAndB_, dOrB_, dAnd_, dOr_, dNot_, notT_, byT_t, byT_f, fTru_bl, dOp_, dUn_, dApp_, dCons_, dNil_, dTup_, dLst_, dC_, dVar_0, dVar_1, dVar_2, dVar_3, dVar_4, dVar_5, dVar_6, dVar_7, dVar_S, dCall_, dSkip_, dRet_, dDrop_, R.bind_ok, R.thn_ok, R.nex_ok, seq_nx, seq_rt, toR_rt, toR_nx, gN_, aft_, unB_, unT_bl, Bool.not_true, Bool.not_false, Bool.false_eq_true, if_true, if_false, List.set_cons_succ, List.set_cons_zero, List.map_cons, List.map_nil, List.cons_append, List.nil_append, List.length_cons, List.length_nil, List.replicate_succ, List.replicate_zero, Nat.reduceAdd, Nat.reduceSub, Nat.reduceLeDiff, fAdd_int, fSub_int, wipeP]
          rw [key]
          have gk := getL_last (μ := μ1) (acc := (linI p q c a 12).map PV.int)
          have he : fEq (.tup ((linI p q c a 12).map PV.int)) (.tup xs) (μ1 ++ [Ob.lst ((linI p q c a 12).map PV.int)]) = .ok (.bl true) (μ1 ++ [Ob.lst ((linI p q c a 12).map PV.int)]) := by
            rw [hxs, hlin]
            exact fEq_ints (by rw [hl]; decide)
          simp only [dSeq_, dAsg_, dIf_, dIfS_, asB_, dTru_, dNotB_, dAndB_, dOrB_, dAnd_, dOr_, dNot_, notT_, byT_t, byT_f, fTru_bl, dOp_, dUn_, dApp_, dCons_, dNil_, dTup_, dLst_, dC_, dVar_0, dVar_1, dVar_2, dVar_3, dVar_4, dVar_5, dVar_6, dVar_7, dVar_S, dCall_, dSkip_, dRet_, dDrop_, R.bind_ok, R.thn_ok, R.nex_ok, seq_nx, seq_rt, toR_rt, toR_nx, gN_, aft_, unB_, unT_bl, Bool.not_true, Bool.not_false, Bool.false_eq_true, if_true, if_false, List.set_cons_succ, List.set_cons_zero, List.map_cons, List.map_nil, List.cons_append, List.nil_append, List.length_cons, List.length_nil, List.replicate_succ, List.replicate_zero, Nat.reduceAdd, Nat.reduceSub, Nat.reduceLeDiff, fAdd_int, fSub_int, fTuple_ref gk, he]
          exact ⟨_, rfl⟩
      · cases hv
    · cases hv
  · cases hv
theorem gread {p q c a : Int} {μ : Mu} (hk : okS p q c a 12 = true) : gV readF [rl p q c, .tup ((linI p q c a 12).map PV.int)] μ = .ok (.bl true) μ := by
  have h := (okS_of hk).1
  have h2 := (okS_of hk).2.2.1
  have h1 := (okS_of hk).2.1
  have e : linI p q c a 12 = a :: (List.range 11).map fun k => (blk p q c a (k + 2)).1 := by
    unfold linI
    rw [List.range_succ_eq_map, List.map_cons, List.map_map]
    have : (blk p q c a (0 + 1)).1 = a := by
      show (if nxt p q c a ≤ 0 then ((0 : Int), nxt p q c a) else (0 + a, nxt p q c a)).1 = a
      rw [if_neg (by omega)]
      simp
    rw [this]; rfl
  unfold gV readF
  simp only [allI_map]
  rw [e]
  simp only [hk, ← e, decide_true, Bool.and_self, if_true]
theorem part_up (as : List PV) (v : PV) (_ : as.length = 3) (hv : partF as = some v) : lowL as = true ∧ low v = true ∧ ∃ μ', f_growths_to_part as [] = .ok v μ' := by
  unfold partF at hv
  split at hv
  · rename_i p q c p2 q2 c2 a _
    split at hv
    · rename_i hk
      cases hv
      simp only [Bool.and_eq_true, decide_eq_true_eq] at hk
      obtain ⟨⟨⟨hk, rfl⟩, rfl⟩, rfl⟩ := hk
      obtain ⟨h, h1, h2, ha, hc, h5, h6⟩ := okS_of hk
      refine ⟨rfl, rfl, ?_⟩
      generalize hμ : ([] : Mu) = μ
      have hb : ∀ μ, gV backsF [rl p q c, .int a, .int 60] μ = .ok (.tup (bks p q c a 60)) μ := fun μ => g3 hk
      have key := lc_pure (j := jEnum (jTup (bks p q c a 60))) (g := gc2 5 6) (items := numd (bks p q c a 60)) (tt := asB (dOp fNe (dVar 6) (dOp fIx (dVar 4) (dVar 5)))) (te := dOp fAdd (dVar 5) (dC (.int 1))) (ρ := wipeP [some (rl p q c), some (rl p q c), some (.int a), some (.tup (bks p q c a 60)), some (.tup (bks p q c a 60)), none, none] [5, 6]) (fun _ => false) id (μ := μ)
        (fun acc i => by unfold jEnum jTup; rw [numd_get]; rfl) (by rw [numd_len]; simp [bks]) (fun acc i x hx => by
          rw [numd_get] at hx
          cases hq : (bks p q c a 60)[i]? with
          | none => rw [hq] at hx; cases hx
          | some y =>
            rw [hq] at hx
            cases hx
            obtain ⟨k, _, rfl⟩ := List.mem_map.mp (List.mem_of_getElem? hq)
            refine ⟨_, rfl, ?_, fun z => by cases z⟩
            simp only [dSeq_, dAsg_, dIf_, dIfS_, asB_, dTru_, dNotB_, dAndB_, dOrB_, dAnd_, dOr_, dNot_, notT_, byT_t, byT_f, fTru_bl, dOp_, dUn_, dApp_, dCons_, dNil_, dTup_, dLst_, dC_, dVar_0, dVar_1, dVar_2, dVar_3, dVar_4, dVar_5, dVar_6, dVar_7, dVar_S, dCall_, dSkip_, dRet_, dDrop_, R.bind_ok, R.thn_ok, R.nex_ok, seq_nx, seq_rt, toR_rt, toR_nx, gN_, aft_, unB_, unT_bl, Bool.not_true, Bool.not_false, Bool.false_eq_true, if_true, if_false, List.set_cons_succ, List.set_cons_zero, List.map_cons, List.map_nil, List.cons_append, List.nil_append, List.length_cons, List.length_nil, List.replicate_succ, List.replicate_zero, Nat.reduceAdd, Nat.reduceSub, Nat.reduceLeDiff, fAdd_int, fSub_int, wipeP, fIx_tup (atI_k hq), fNe_bl, beq_self_eq_true])
      have hf : ((numd (bks p q c a 60)).filter fun _ => false) = [] := by simp
      rw [hf, List.map_nil] at key
      unfold f_growths_to_part d_growths_to_part
      rw [runF_]
      simp only [dSeq_, dAsg_, dIf_, dIfS_, asB_, dTru_, dNotB_, dAndB_, dOrB_, dAnd_, dOr_, dNot_, notT_, byT_t, byT_f, fTru_bl, dOp_, dUn_, dApp_, dCons_, dNil_, dTup_, dLst_, dC_, dVar_0, dVar_1, dVar_2, dVar_3, dVar_4, dVar_5, dVar_6, dVar_7, dVar_S, dCall_, dSkip_, dRet_, dDrop_, R.bind_ok, R.thn_ok, R.nex_ok, seq_nx, seq_rt, toR_rt, toR_nx, gN_, aft_, unB_, unT_bl, Bool.not_true, Bool.not_false, Bool.false_eq_true, if_true, if_false, List.set_cons_succ, List.set_cons_zero, List.map_cons, List.map_nil, List.cons_append, List.nil_append, List.length_cons, List.length_nil, List.replicate_succ, List.replicate_zero, Nat.reduceAdd, Nat.reduceSub, Nat.reduceLeDiff, fAdd_int, fSub_int, check_eq h h1 h2, hb, gT_, gsC_, gsN_, dMinD_, dLc_, diEn_, en_tup, key, fMinD_nil getL_last]
      exact ⟨_, rfl⟩
    · cases hv
  · cases hv
end GB
set_option Elab.async false
set_option linter.all false
set_option maxRecDepth 100000
set_option maxHeartbeats 4000000
namespace GB
open PySem PySem.Spec PyProof.Rows L2
end GB
set_option Elab.async false
set_option linter.all false
set_option maxRecDepth 100000
set_option maxHeartbeats 2000000
namespace GB
open PySem L2
def subP (x : PV) : PV := match x with
  | .tup [.int x, .int y] => if y = 0 then .non else .int (y - x)
  | _ => .non
theorem szR_low (ns : List Int) : lowL (szR ns) = true := by
  unfold szR
  generalize List.range ns.length = l
  induction l with
  | nil => rfl
  | cons x xs ih =>
    rw [List.map_cons]
    simp only [lowL, ih, Bool.and_true]
    split <;> rfl
theorem sizes_up (as : List PV) (v : PV) (_ : as.length = 1) (hv : sizesRF as = some v) : lowL as = true ∧ low v = true ∧ ∃ μ', f_sizes_read as [] = .ok v μ' := by
  unfold sizesRF at hv
  split at hv
  · rename_i xs _
    split at hv
    · rename_i ns hx
      split at hv
      · rename_i hk
        cases hv
        rw [Bool.and_eq_true, decide_eq_true_eq, decide_eq_true_eq] at hk
        have hxs := allI_inv hx
        have hl : xs.length = ns.length := by rw [hxs, List.length_map]
        refine ⟨?_, szR_low ns, ?_⟩
        · have := (intT_mem (intT_map ns)).2
          rw [hxs]
          simpa [lowL, low] using this
        · generalize hμ : ([] : Mu) = μ
          have g0 := getL_last (μ := μ) (acc := .int 0 :: xs)
          have hcut : cutP (.int 0 :: xs) (some 1) none = xs := cut_from _ 1
          have gz1 := getL_app (ν := [Ob.lst xs]) g0
          have gz2 := getL_last (μ := μ ++ [Ob.lst (.int 0 :: xs)]) (acc := xs)
          have hl1 : xs.length + 1 ≤ 16777216 := by omega
          unfold f_sizes_read d_sizes_read
          rw [runF_]
          simp only [dSeq_, dAsg_, dIf_, dIfS_, asB_, dTru_, dNotB_, dAndB_, dOrB_, dAnd_, dOr_, dNot_, notT_, byT_t, byT_f, fTru_bl, dOp_, dUn_, dApp_, dCons_, dNil_, dTup_, dLst_, dC_, dVar_0, dVar_1, dVar_2, dVar_3, dVar_4, dVar_5, dVar_6, dVar_7, dVar_S, dCall_, dSkip_, dRet_, dDrop_, R.bind_ok, R.thn_ok, R.nex_ok, seq_nx, seq_rt, toR_rt, toR_nx, gN_, aft_, unB_, unT_bl, Bool.not_true, Bool.not_false, Bool.false_eq_true, if_true, if_false, List.set_cons_succ, List.set_cons_zero, List.map_cons, List.map_nil, List.cons_append, List.nil_append, List.length_cons, List.length_nil, List.replicate_succ, List.replicate_zero, Nat.reduceAdd, Nat.reduceSub, Nat.reduceLeDiff, fAdd_int, fSub_int, dStar, List.append_nil, hl1, dLc_, diZip_, dSl_, dPart_, unI_, dNoPart_, fSl_ref g0, hcut, zipL_ok gz1 gz2]
          generalize μ ++ [Ob.lst (.int 0 :: xs)] ++ [Ob.lst xs] = μ1 at *
          generalize (μ ++ [Ob.lst (.int 0 :: xs)]).length = l1 at *
          generalize μ.length = l0 at *
          generalize e : dLcN _ _ _ _ _ _ _ _ _ = o
          have key : o = .ok (.ref μ1.length) (μ1 ++ [Ob.lst (szR ns)]) := by
            rw [← e]
            have hsh : szR ns = ((List.range ns.length).map fun i => PV.tup [.int ((0 :: ns).getD i 0), .int (ns.getD i 0)]).map subP := by
              unfold szR
              rw [List.map_map]; rfl
            rw [hsh]
            refine lc_map _ (fun acc i => ?_) (by rw [List.length_map, List.length_range]; omega) (fun acc i x hx => ?_)
            · unfold jZip
              rw [jLst_at (getL_app gz1), jLst_at (getL_app gz2)]
              have e0 : (PV.int 0 :: xs) = (0 :: ns).map .int := by rw [hxs]; rfl
              by_cases hi : i < ns.length
              · have h1 : (PV.int 0 :: xs)[i]? = some (.int ((0 :: ns).getD i 0)) := by
                  rw [e0, List.getElem?_map, List.getElem?_eq_getElem (show i < (0 :: ns).length by simp; omega), List.getD_eq_getElem?_getD, List.getElem?_eq_getElem (show i < (0 :: ns).length by simp; omega)]; rfl
                have h2 : xs[i]? = some (.int (ns.getD i 0)) := by
                  rw [hxs, List.getElem?_map, List.getElem?_eq_getElem hi, List.getD_eq_getElem?_getD, List.getElem?_eq_getElem hi]; rfl
                rw [h1, h2, List.getElem?_map, List.getElem?_range hi]; rfl
              · rw [List.getElem?_eq_none (l := xs) (by omega), List.getElem?_eq_none (l := List.map _ _) (by rw [List.length_map, List.length_range]; omega)]
                cases (PV.int 0 :: xs)[i]? <;> rfl
            · obtain ⟨k, _, rfl⟩ := List.mem_map.mp (List.mem_of_getElem? hx)
              refine ⟨_, rfl, ?_⟩
              by_cases hz : ns.getD k 0 = 0
              · simp only [dSeq_, dAsg_, dIf_, dIfS_, asB_, dTru_, dNotB_, dAndB_, dOrB_, dAnd_, dOr_, dNot_, notT_, byT_t, byT_f, fTru_bl, dOp_, dUn_, dApp_, dCons_, dNil_, dTup_, dLst_, dC_, dVar_0, dVar_1, dVar_2, dVar_3, dVar_4, dVar_5, dVar_6, dVar_7, dVar_S, dCall_, dSkip_, dRet_, dDrop_, R.bind_ok, R.thn_ok, R.nex_ok, seq_nx, seq_rt, toR_rt, toR_nx, gN_, aft_, unB_, unT_bl, Bool.not_true, Bool.not_false, Bool.false_eq_true, if_true, if_false, List.set_cons_succ, List.set_cons_zero, List.map_cons, List.map_nil, List.cons_append, List.nil_append, List.length_cons, List.length_nil, List.replicate_succ, List.replicate_zero, Nat.reduceAdd, Nat.reduceSub, Nat.reduceLeDiff, fAdd_int, fSub_int, wipeP, fEq_int, hz, decide_true, subP]
              · simp only [dSeq_, dAsg_, dIf_, dIfS_, asB_, dTru_, dNotB_, dAndB_, dOrB_, dAnd_, dOr_, dNot_, notT_, byT_t, byT_f, fTru_bl, dOp_, dUn_, dApp_, dCons_, dNil_, dTup_, dLst_, dC_, dVar_0, dVar_1, dVar_2, dVar_3, dVar_4, dVar_5, dVar_6, dVar_7, dVar_S, dCall_, dSkip_, dRet_, dDrop_, R.bind_ok, R.thn_ok, R.nex_ok, seq_nx, seq_rt, toR_rt, toR_nx, gN_, aft_, unB_, unT_bl, Bool.not_true, Bool.not_false, Bool.false_eq_true, if_true, if_false, List.set_cons_succ, List.set_cons_zero, List.map_cons, List.map_nil, List.cons_append, List.nil_append, List.length_cons, List.length_nil, List.replicate_succ, List.replicate_zero, Nat.reduceAdd, Nat.reduceSub, Nat.reduceLeDiff, fAdd_int, fSub_int, wipeP, fEq_int, decide_eq_false hz, subP, if_neg hz]
          rw [key]
          have gk := getL_last (μ := μ1) (acc := szR ns)
          simp only [dSeq_, dAsg_, dIf_, dIfS_, asB_, dTru_, dNotB_, dAndB_, dOrB_, dAnd_, dOr_, dNot_, notT_, byT_t, byT_f, fTru_bl, dOp_, dUn_, dApp_, dCons_, dNil_, dTup_, dLst_, dC_, dVar_0, dVar_1, dVar_2, dVar_3, dVar_4, dVar_5, dVar_6, dVar_7, dVar_S, dCall_, dSkip_, dRet_, dDrop_, R.bind_ok, R.thn_ok, R.nex_ok, seq_nx, seq_rt, toR_rt, toR_nx, gN_, aft_, unB_, unT_bl, Bool.not_true, Bool.not_false, Bool.false_eq_true, if_true, if_false, List.set_cons_succ, List.set_cons_zero, List.map_cons, List.map_nil, List.cons_append, List.nil_append, List.length_cons, List.length_nil, List.replicate_succ, List.replicate_zero, Nat.reduceAdd, Nat.reduceSub, Nat.reduceLeDiff, fAdd_int, fSub_int, fTuple_ref gk]
          exact ⟨_, rfl⟩
      · cases hv
    · cases hv
  · cases hv
theorem gsizes {μ : Mu} {ns : List Int} (h : ns.length < 1000) (h0 : 0 < ns.length) : gV sizesRF [.tup (ns.map .int)] μ = .ok (.tup (szR ns)) μ := by
  unfold gV sizesRF
  simp only [allI_map, decide_eq_true h, decide_eq_true h0, Bool.and_self, if_true]
def tld (p q c a : Int) (n : Nat) : List PV := (List.range n).map fun k => if (blk p q c a (k + 1)).1 = 0 then .non else .int (blk p q c a k).2
theorem szR_lin (p q c a : Int) (n : Nat) : szR (linI p q c a n) = tld p q c a n := by
  unfold szR tld
  rw [linI_len]
  refine List.map_congr_left fun k hk => ?_
  have hk := List.mem_range.mp hk
  have h1 : (linI p q c a n).getD k 0 = (blk p q c a (k + 1)).1 := by
    unfold linI
    rw [List.getD_eq_getElem?_getD, List.getElem?_map, List.getElem?_range hk]; rfl
  have h2 : (0 :: linI p q c a n).getD k 0 = (blk p q c a k).1 := by
    cases k with
    | zero => rfl
    | succ j =>
      rw [List.getD_cons_succ]
      unfold linI
      rw [List.getD_eq_getElem?_getD, List.getElem?_map, List.getElem?_range (by omega)]; rfl
  rw [h1, h2]
  by_cases hz : (blk p q c a (k + 1)).1 = 0
  · rw [if_pos hz, if_pos hz]
  · rw [if_neg hz, if_neg hz]
    rw [blk_S] at hz ⊢
    split at hz
    · exact absurd rfl hz
    · rename_i hn
      rw [if_neg hn]
      simp only [PV.int.injEq]
      omega
end GB
set_option Elab.async false
set_option linter.all false
set_option maxRecDepth 100000
set_option maxHeartbeats 4000000
namespace GB
open PySem PySem.Spec PyProof.Rows L2
end GB
set_option Elab.async false
set_option linter.all false
set_option maxRecDepth 100000
set_option maxHeartbeats 2000000
namespace GB
open PySem L2
theorem fAdd_ref {μ : Mu} {l m : Nat} {xs ys : List PV} (h : getM μ l = some xs) (h2 : getM μ m = some ys) (hl : xs.length + ys.length ≤ 16777216) : fAdd (.ref l) (.ref m) μ = .ok (.ref μ.length) (μ ++ [.lst (xs ++ ys)]) := by
  unfold fAdd
  simp only [h, h2, if_pos hl]
theorem sm_int (n : Nat) (μ : Mu) (i : Int) : sm (n + 1) μ (.int i) (.int i) = true := by simp [sm]
theorem sm_ints {n : Nat} {μ : Mu} {xs : List PV} (h : ∀ x ∈ xs, sm (n + 1) μ x x = true) (hl : xs.length < 1000000) : sm (n + 2) μ (.tup xs) (.tup xs) = true := by
  unfold sm
  simp only [decide_eq_true hl, Bool.true_and]
  exact smL_refl h
theorem sm_frac {n : Nat} {μ : Mu} {a b : Int} : sm (n + 2) μ (frac a b) (frac a b) = true := by
  unfold frac
  exact sm_ints (fun x hx => by simp at hx; rcases hx with rfl | rfl <;> exact sm_int ..) (by simp)
def sndP (x : PV) : PV := match x with
  | .tup [.int b, _] => .int b
  | _ => .non
theorem case_eq {p q c a : Int} {μ : Mu} {n : Nat} (hk : okS p q c a n = true) (hn : 13 ≤ n) : ∃ μ', f__law_case_right [rl p q c, .int a, .int n] μ = .ok (.bl true) μ' := by
  obtain ⟨h, h1, h2, ha, hc, h5, h6⟩ := okS_of hk
  have hk6 : okS p q c a 6 = true := okS_mk h h1 h2 ha hc (by decide) (by decide)
  have hk12 : okS p q c a 12 = true := okS_mk h h1 h2 ha hc (by decide) (by decide)
  have hk60 : okS p q c a 60 = true := okS_mk h h1 h2 ha hc (by decide) (by decide)
  have s1 : gL needsF [rl p q c, .int a, .int n] μ = .ok (.ref μ.length) (μ ++ [.lst (nds p q c a n)]) := g3L hk
  have g1 := getL_last (μ := μ) (acc := nds p q c a n)
  have c1 : ∀ μ, gV cellsF [rl p q c, .int a, .int n] μ = .ok (.int (tpS p q c a (n - 1))) μ := fun μ => g3 hk
  have c2 : ∀ μ, gV markF [rl p q c, .int a, .int n] μ = .ok (.int (mxL (tps p q c a n))) μ := fun μ => g3 hk
  have c3 : ∀ μ, gV sharesF [rl p q c, .int a, .int 6] μ = .ok (.tup (shs p q c a 6)) μ := fun μ => g3 hk6
  have c4 : ∀ μ, gV backsF [rl p q c, .int a, .int n] μ = .ok (.tup (bks p q c a n)) μ := fun μ => g3 hk
  have c5 : ∀ μ, gL partsF [rl p q c, .int a, .int 6] μ = .ok (.ref μ.length) (μ ++ [.lst (shs p q c a 6)]) := fun μ => g3L hk6
  have c6 : ∀ μ, gV readF [rl p q c, .tup ((linI p q c a 12).map PV.int)] μ = .ok (.bl true) μ := fun μ => gread hk12
  have c7 : ∀ μ, gV sizesRF [.tup ((linI p q c a 12).map PV.int)] μ = .ok (.tup (tld p q c a 12)) μ := fun μ => by
    rw [← szR_lin]
    exact gsizes (by rw [linI_len]; decide) (by rw [linI_len]; decide)
  have c8 : ∀ μ, gV partF [rl p q c, rl p q c, .int a] μ = .ok .non μ := fun μ => by
    unfold gV partF
    simp only [hk60, decide_true, Bool.and_self, if_true]
  unfold f__law_case_right d__law_case_right
  rw [runF_]
  generalize hE : μ.length = lE at *
  generalize μ ++ [.lst (nds p q c a n)] = μ1 at *
  have s2 := lrows_ok (a := a) (μ := μ1) h (n := n) (by omega)
  have g2 := getL_last (μ := μ1) (acc := blks p q c a n)
  have g1' := getL_app (ν := [Ob.lst (blks p q c a n)]) g1
  simp only [dSeq_, dAsg_, dIf_, dIfS_, asB_, dTru_, dNotB_, dAndB_, dOrB_, dAnd_, dOr_, dNot_, notT_, byT_t, byT_f, fTru_bl, dOp_, dUn_, dApp_, dCons_, dNil_, dTup_, dLst_, dC_, dVar_0, dVar_1, dVar_2, dVar_3, dVar_4, dVar_5, dVar_6, dVar_7, dVar_S, dCall_, dSkip_, dRet_, dDrop_, R.bind_ok, R.thn_ok, R.nex_ok, seq_nx, seq_rt, toR_rt, toR_nx, gN_, aft_, unB_, unT_bl, Bool.not_true, Bool.not_false, Bool.false_eq_true, if_true, if_false, List.set_cons_succ, List.set_cons_zero, List.map_cons, List.map_nil, List.cons_append, List.nil_append, List.length_cons, List.length_nil, List.replicate_succ, List.replicate_zero, Nat.reduceAdd, Nat.reduceSub, Nat.reduceLeDiff, fAdd_int, fSub_int, s1, s2, gT_, gsC_, gsN_, c1, c2, c3, c4]
  generalize hR : μ1.length = lR at *
  generalize μ1 ++ [Ob.lst (blks p q c a n)] = μ2 at *
  generalize hG : [PV.int (tpS p q c a (n - 1)), .int (mxL (tps p q c a n)), .tup (shs p q c a 6), .tup (bks p q c a n)] = G at *
  have hGl : G.length = 4 := by rw [← hG]; rfl
  have hG16 : G.length ≤ 16777216 := by omega
  have m3 := getM_last (μ := μ2) (acc := G)
  have g13 := getL_app (ν := [Ob.lst G]) g1'
  have g23 := getL_app (ν := [Ob.lst G]) g2
  have i1 := fIx_ref g13 (nds_last (p := p) (q := q) (c := c) (a := a) (n := n) (by omega))
  have i2 := fMax_ref (ns := tps p q c a n) (by rw [← nds_tps]; exact g13) (by rw [tps_len]; omega)
  have t1 := fTuple_ref (getL_last (μ := μ2 ++ [Ob.lst G]) (acc := shs p q c a 6))
  have hcut : cutP (blks p q c a n) (some 1) none = (blks p q c a n).drop 1 := cut_from _ 1
  have g24 := getL_app (ν := [Ob.lst (shs p q c a 6)]) g23
  have m34 := getM_app (ν := [Ob.lst (shs p q c a 6)]) m3
  simp only [dSeq_, dAsg_, dIf_, dIfS_, asB_, dTru_, dNotB_, dAndB_, dOrB_, dAnd_, dOr_, dNot_, notT_, byT_t, byT_f, fTru_bl, dOp_, dUn_, dApp_, dCons_, dNil_, dTup_, dLst_, dC_, dVar_0, dVar_1, dVar_2, dVar_3, dVar_4, dVar_5, dVar_6, dVar_7, dVar_S, dCall_, dSkip_, dRet_, dDrop_, R.bind_ok, R.thn_ok, R.nex_ok, seq_nx, seq_rt, toR_rt, toR_nx, gN_, aft_, unB_, unT_bl, Bool.not_true, Bool.not_false, Bool.false_eq_true, if_true, if_false, List.set_cons_succ, List.set_cons_zero, List.map_cons, List.map_nil, List.cons_append, List.nil_append, List.length_cons, List.length_nil, List.replicate_succ, List.replicate_zero, Nat.reduceAdd, Nat.reduceSub, Nat.reduceLeDiff, fAdd_int, fSub_int, fNeg_int, i1, i2, c5, t1, dLc_, diSeq_, dSl_, dPart_, unI_, dNoPart_, fSl_ref g24, hcut]
  generalize hL2 : μ2.length = lG at *
  generalize μ2 ++ [Ob.lst G] ++ [Ob.lst (shs p q c a 6)] = μ4 at *
  have g5 := getL_last (μ := μ4) (acc := (blks p q c a n).drop 1)
  have g25 := getL_app (ν := [Ob.lst ((blks p q c a n).drop 1)]) g24
  have m35 := getM_app (ν := [Ob.lst ((blks p q c a n).drop 1)]) m34
  simp only [dSeq_, dAsg_, dIf_, dIfS_, asB_, dTru_, dNotB_, dAndB_, dOrB_, dAnd_, dOr_, dNot_, notT_, byT_t, byT_f, fTru_bl, dOp_, dUn_, dApp_, dCons_, dNil_, dTup_, dLst_, dC_, dVar_0, dVar_1, dVar_2, dVar_3, dVar_4, dVar_5, dVar_6, dVar_7, dVar_S, dCall_, dSkip_, dRet_, dDrop_, R.bind_ok, R.thn_ok, R.nex_ok, seq_nx, seq_rt, toR_rt, toR_nx, gN_, aft_, unB_, unT_bl, Bool.not_true, Bool.not_false, Bool.false_eq_true, if_true, if_false, List.set_cons_succ, List.set_cons_zero, List.map_cons, List.map_nil, List.cons_append, List.nil_append, List.length_cons, List.length_nil, List.replicate_succ, List.replicate_zero, Nat.reduceAdd, Nat.reduceSub, Nat.reduceLeDiff, fAdd_int, fSub_int, jSeq_ref g5]
  generalize hl4 : μ4.length = l4 at *
  generalize μ4 ++ [Ob.lst ((blks p q c a n).drop 1)] = μ5 at *
  generalize e1 : dLcN _ _ _ _ _ _ _ _ _ = o1
  have key1 : o1 = .ok (.ref μ5.length) (μ5 ++ [Ob.lst (bks p q c a n)]) := by
    rw [← e1, bks_of]
    refine lc_map _ (fun acc i => jLst_at (getL_app g5) i) (by rw [blks_drop, List.length_map, List.length_range]; omega) (fun acc i x hx => ?_)
    rw [blks_drop] at hx
    obtain ⟨u, v, rfl⟩ := mem_pair hx
    refine ⟨_, rfl, ?_⟩
    simp only [dSeq_, dAsg_, dIf_, dIfS_, asB_, dTru_, dNotB_, dAndB_, dOrB_, dAnd_, dOr_, dNot_, notT_, byT_t, byT_f, fTru_bl, dOp_, dUn_, dApp_, dCons_, dNil_, dTup_, dLst_, dC_, dVar_0, dVar_1, dVar_2, dVar_3, dVar_4, dVar_5, dVar_6, dVar_7, dVar_S, dCall_, dSkip_, dRet_, dDrop_, R.bind_ok, R.thn_ok, R.nex_ok, seq_nx, seq_rt, toR_rt, toR_nx, gN_, aft_, unB_, unT_bl, Bool.not_true, Bool.not_false, Bool.false_eq_true, if_true, if_false, List.set_cons_succ, List.set_cons_zero, List.map_cons, List.map_nil, List.cons_append, List.nil_append, List.length_cons, List.length_nil, List.replicate_succ, List.replicate_zero, Nat.reduceAdd, Nat.reduceSub, Nat.reduceLeDiff, fAdd_int, fSub_int, wipeP, fIx_tup0, fEq_int, fstZ]
  clear e1
  subst key1
  have g26 := getL_app (ν := [Ob.lst (bks p q c a n)]) g25
  have m36 := getM_app (ν := [Ob.lst (bks p q c a n)]) m35
  have t6 := fTuple_ref (getL_last (μ := μ5) (acc := bks p q c a n))
  simp only [dSeq_, dAsg_, dIf_, dIfS_, asB_, dTru_, dNotB_, dAndB_, dOrB_, dAnd_, dOr_, dNot_, notT_, byT_t, byT_f, fTru_bl, dOp_, dUn_, dApp_, dCons_, dNil_, dTup_, dLst_, dC_, dVar_0, dVar_1, dVar_2, dVar_3, dVar_4, dVar_5, dVar_6, dVar_7, dVar_S, dCall_, dSkip_, dRet_, dDrop_, R.bind_ok, R.thn_ok, R.nex_ok, seq_nx, seq_rt, toR_rt, toR_nx, gN_, aft_, unB_, unT_bl, Bool.not_true, Bool.not_false, Bool.false_eq_true, if_true, if_false, List.set_cons_succ, List.set_cons_zero, List.map_cons, List.map_nil, List.cons_append, List.nil_append, List.length_cons, List.length_nil, List.replicate_succ, List.replicate_zero, Nat.reduceAdd, Nat.reduceSub, Nat.reduceLeDiff, fAdd_int, fSub_int, t6, hG, hG16]
  clear t6 g5 g25 m35
  generalize μ5 ++ [Ob.lst (bks p q c a n)] = μ6 at *
  have g27 := getL_app (ν := [Ob.lst G]) g26
  have m37 := getM_app (ν := [Ob.lst G]) m36
  have d7 := getM_last (μ := μ6) (acc := G)
  generalize μ6.length = lD at *
  generalize μ6 ++ [Ob.lst G] = μ7 at *
  have hcut2 : cutP (blks p q c a n) (some 1) (some 13) = ((blks p q c a n).drop 1).take 12 := cut_both _ 1 13 (by decide)
  have hct : ((blks p q c a n).drop 1).take 12 = (List.range 12).map fun k => pairV (blk p q c a (k + 1)) := by
    rw [blks_drop, ← List.map_take, List.take_range, show min 12 n = 12 by omega]
  rw [hct] at hcut2
  have g8 := getL_last (μ := μ7) (acc := (List.range 12).map fun k => pairV (blk p q c a (k + 1)))
  simp only [dSeq_, dAsg_, dIf_, dIfS_, asB_, dTru_, dNotB_, dAndB_, dOrB_, dAnd_, dOr_, dNot_, notT_, byT_t, byT_f, fTru_bl, dOp_, dUn_, dApp_, dCons_, dNil_, dTup_, dLst_, dC_, dVar_0, dVar_1, dVar_2, dVar_3, dVar_4, dVar_5, dVar_6, dVar_7, dVar_S, dCall_, dSkip_, dRet_, dDrop_, R.bind_ok, R.thn_ok, R.nex_ok, seq_nx, seq_rt, toR_rt, toR_nx, gN_, aft_, unB_, unT_bl, Bool.not_true, Bool.not_false, Bool.false_eq_true, if_true, if_false, List.set_cons_succ, List.set_cons_zero, List.map_cons, List.map_nil, List.cons_append, List.nil_append, List.length_cons, List.length_nil, List.replicate_succ, List.replicate_zero, Nat.reduceAdd, Nat.reduceSub, Nat.reduceLeDiff, fAdd_int, fSub_int, dLc_, diSeq_, dSl_, dPart_, unI_, fSl_ref g27, hcut2, jSeq_ref g8]
  have g28 := getL_app (ν := [Ob.lst ((List.range 12).map fun k => pairV (blk p q c a (k + 1)))]) g27
  have m38 := getM_app (ν := [Ob.lst ((List.range 12).map fun k => pairV (blk p q c a (k + 1)))]) m37
  have d8 := getM_app (ν := [Ob.lst ((List.range 12).map fun k => pairV (blk p q c a (k + 1)))]) d7
  generalize μ7.length = l7 at *
  generalize μ7 ++ [Ob.lst ((List.range 12).map fun k => pairV (blk p q c a (k + 1)))] = μ8 at *
  generalize e1 : dLcN _ _ _ _ _ _ _ _ _ = o1
  have key1 : o1 = .ok (.ref μ8.length) (μ8 ++ [Ob.lst ((linI p q c a 12).map PV.int)]) := by
    have hs : (linI p q c a 12).map PV.int = ((List.range 12).map fun k => pairV (blk p q c a (k + 1))).map sndP := by
      unfold linI
      rw [List.map_map, List.map_map]; rfl
    rw [← e1, hs]
    refine lc_map _ (fun acc i => jLst_at (getL_app g8) i) (by rw [List.length_map, List.length_range]; omega) (fun acc i x hx => ?_)
    obtain ⟨u, v, rfl⟩ := mem_pair hx
    refine ⟨_, rfl, ?_⟩
    simp only [dSeq_, dAsg_, dIf_, dIfS_, asB_, dTru_, dNotB_, dAndB_, dOrB_, dAnd_, dOr_, dNot_, notT_, byT_t, byT_f, fTru_bl, dOp_, dUn_, dApp_, dCons_, dNil_, dTup_, dLst_, dC_, dVar_0, dVar_1, dVar_2, dVar_3, dVar_4, dVar_5, dVar_6, dVar_7, dVar_S, dCall_, dSkip_, dRet_, dDrop_, R.bind_ok, R.thn_ok, R.nex_ok, seq_nx, seq_rt, toR_rt, toR_nx, gN_, aft_, unB_, unT_bl, Bool.not_true, Bool.not_false, Bool.false_eq_true, if_true, if_false, List.set_cons_succ, List.set_cons_zero, List.map_cons, List.map_nil, List.cons_append, List.nil_append, List.length_cons, List.length_nil, List.replicate_succ, List.replicate_zero, Nat.reduceAdd, Nat.reduceSub, Nat.reduceLeDiff, fAdd_int, fSub_int, wipeP, fIx_tup0, sndP]
  clear e1
  subst key1
  have g29 := getL_app (ν := [Ob.lst ((linI p q c a 12).map PV.int)]) g28
  have m39 := getM_app (ν := [Ob.lst ((linI p q c a 12).map PV.int)]) m38
  have d9 := getM_app (ν := [Ob.lst ((linI p q c a 12).map PV.int)]) d8
  have t9 := fTuple_ref (getL_last (μ := μ8) (acc := (linI p q c a 12).map PV.int))
  simp only [dSeq_, dAsg_, dIf_, dIfS_, asB_, dTru_, dNotB_, dAndB_, dOrB_, dAnd_, dOr_, dNot_, notT_, byT_t, byT_f, fTru_bl, dOp_, dUn_, dApp_, dCons_, dNil_, dTup_, dLst_, dC_, dVar_0, dVar_1, dVar_2, dVar_3, dVar_4, dVar_5, dVar_6, dVar_7, dVar_S, dCall_, dSkip_, dRet_, dDrop_, R.bind_ok, R.thn_ok, R.nex_ok, seq_nx, seq_rt, toR_rt, toR_nx, gN_, aft_, unB_, unT_bl, Bool.not_true, Bool.not_false, Bool.false_eq_true, if_true, if_false, List.set_cons_succ, List.set_cons_zero, List.map_cons, List.map_nil, List.cons_append, List.nil_append, List.length_cons, List.length_nil, List.replicate_succ, List.replicate_zero, Nat.reduceAdd, Nat.reduceSub, Nat.reduceLeDiff, fAdd_int, fSub_int, t9, dLc_, diRng1_, rng1_ok (show (-4611686018427387904 : Int) ≤ 12 by decide) (show (12 : Int) < 4611686018427387904 by decide), show (12 : Int).toNat = 12 from rfl]
  clear t9 g8 g28 m38 d8
  generalize μ8 ++ [Ob.lst ((linI p q c a 12).map PV.int)] = μ9 at *
  generalize e1 : dLcN _ _ _ _ _ _ _ _ _ = o1
  have key1 : o1 = .ok (.ref μ9.length) (μ9 ++ [Ob.lst (tld p q c a 12)]) := by
    have hs : tld p q c a 12 = ((List.range 12).map fun k => PV.int (0 + (k : Nat))).map fun x => match x with
      | .int k => if (blk p q c a (k.toNat + 1)).1 = 0 then .non else .int (blk p q c a k.toNat).2
      | _ => .non := by
      unfold tld
      rw [List.map_map]
      exact List.map_congr_left fun k _ => by simp
    rw [← e1, hs]
    refine lc_map _ (fun acc i => jRng_at i) (by rw [List.length_map, List.length_range]; omega) (fun acc i x hx => ?_)
    have hi : i < 12 := by
      have := (List.getElem?_eq_some_iff.mp hx).1
      rwa [List.length_map, List.length_range] at this
    rw [List.getElem?_map, List.getElem?_range hi] at hx
    cases hx
    have z := getL_app (ν := [Ob.lst acc]) g29
    have a0 : atI (blks p q c a n) ((0 : Int) + i) = some (pairV (blk p q c a i)) := by rw [Int.zero_add]; exact atI_k (blks_get _ _ _ _ (by omega))
    have a1 : atI ((linI p q c a 12).map PV.int) ((0 : Int) + i) = some (.int (blk p q c a (i + 1)).1) := by
      rw [Int.zero_add]
      exact atI_k (by unfold linI; rw [List.getElem?_map, List.getElem?_map, List.getElem?_range hi]; rfl)
    have ht : ((0 : Int) + i).toNat = i := by omega
    refine ⟨_, rfl, ?_⟩
    by_cases hz : (blk p q c a (i + 1)).1 = 0
    · simp only [dSeq_, dAsg_, dIf_, dIfS_, asB_, dTru_, dNotB_, dAndB_, dOrB_, dAnd_, dOr_, dNot_, notT_, byT_t, byT_f, fTru_bl, dOp_, dUn_, dApp_, dCons_, dNil_, dTup_, dLst_, dC_, dVar_0, dVar_1, dVar_2, dVar_3, dVar_4, dVar_5, dVar_6, dVar_7, dVar_S, dCall_, dSkip_, dRet_, dDrop_, R.bind_ok, R.thn_ok, R.nex_ok, seq_nx, seq_rt, toR_rt, toR_nx, gN_, aft_, unB_, unT_bl, Bool.not_true, Bool.not_false, Bool.false_eq_true, if_true, if_false, List.set_cons_succ, List.set_cons_zero, List.map_cons, List.map_nil, List.cons_append, List.nil_append, List.length_cons, List.length_nil, List.replicate_succ, List.replicate_zero, Nat.reduceAdd, Nat.reduceSub, Nat.reduceLeDiff, fAdd_int, fSub_int, wipeP, fIx_tup a1, fEq_int, hz, decide_true, ht]
    · simp only [dSeq_, dAsg_, dIf_, dIfS_, asB_, dTru_, dNotB_, dAndB_, dOrB_, dAnd_, dOr_, dNot_, notT_, byT_t, byT_f, fTru_bl, dOp_, dUn_, dApp_, dCons_, dNil_, dTup_, dLst_, dC_, dVar_0, dVar_1, dVar_2, dVar_3, dVar_4, dVar_5, dVar_6, dVar_7, dVar_S, dCall_, dSkip_, dRet_, dDrop_, R.bind_ok, R.thn_ok, R.nex_ok, seq_nx, seq_rt, toR_rt, toR_nx, gN_, aft_, unB_, unT_bl, Bool.not_true, Bool.not_false, Bool.false_eq_true, if_true, if_false, List.set_cons_succ, List.set_cons_zero, List.map_cons, List.map_nil, List.cons_append, List.nil_append, List.length_cons, List.length_nil, List.replicate_succ, List.replicate_zero, Nat.reduceAdd, Nat.reduceSub, Nat.reduceLeDiff, fAdd_int, fSub_int, wipeP, fIx_tup a1, fEq_int, decide_eq_false hz, fIx_ref z a0, pairV, fIx_tup1, ht, if_neg hz]
  clear e1
  subst key1
  have m310 := getM_app (ν := [Ob.lst (tld p q c a 12)]) m39
  have d10 := getM_app (ν := [Ob.lst (tld p q c a 12)]) d9
  have gT := getL_last (μ := μ9) (acc := tld p q c a 12)
  generalize μ9.length = lT at *
  generalize μ9 ++ [Ob.lst (tld p q c a 12)] = μ10 at *
  generalize hY : [PV.bl true, .tup (tld p q c a 12), .non] = Y at *
  have hYl : Y.length = 3 := by rw [← hY]; rfl
  have hY16 : Y.length ≤ 16777216 := by omega
  have ad1 := fAdd_ref (getM_app (ν := [Ob.lst Y]) m310) (getM_last (μ := μ10) (acc := Y)) (by omega)
  have gT2 := getL_app (ν := [Ob.lst (G ++ Y)]) (getL_app (ν := [Ob.lst Y]) gT)
  have d11 := getM_app (ν := [Ob.lst (G ++ Y)]) (getM_app (ν := [Ob.lst Y]) d10)
  have q1 := getL_last (μ := μ10 ++ [Ob.lst Y]) (acc := G ++ Y)
  simp only [dSeq_, dAsg_, dIf_, dIfS_, asB_, dTru_, dNotB_, dAndB_, dOrB_, dAnd_, dOr_, dNot_, notT_, byT_t, byT_f, fTru_bl, dOp_, dUn_, dApp_, dCons_, dNil_, dTup_, dLst_, dC_, dVar_0, dVar_1, dVar_2, dVar_3, dVar_4, dVar_5, dVar_6, dVar_7, dVar_S, dCall_, dSkip_, dRet_, dDrop_, R.bind_ok, R.thn_ok, R.nex_ok, seq_nx, seq_rt, toR_rt, toR_nx, gN_, aft_, unB_, unT_bl, Bool.not_true, Bool.not_false, Bool.false_eq_true, if_true, if_false, List.set_cons_succ, List.set_cons_zero, List.map_cons, List.map_nil, List.cons_append, List.nil_append, List.length_cons, List.length_nil, List.replicate_succ, List.replicate_zero, Nat.reduceAdd, Nat.reduceSub, Nat.reduceLeDiff, fAdd_int, fSub_int, c6, c7, c8, hY, hY16, ad1, fTuple_ref gT2]
  generalize (μ10 ++ [Ob.lst Y]).length = lA at *
  generalize μ10 ++ [Ob.lst Y] ++ [Ob.lst (G ++ Y)] = μ11 at *
  have ad2 := fAdd_ref (getM_app (ν := [Ob.lst Y]) d11) (getM_last (μ := μ11) (acc := Y)) (by omega)
  have q2 := getL_app (ν := [Ob.lst (G ++ Y)]) (getL_app (ν := [Ob.lst Y]) q1)
  have q3 := getL_last (μ := μ11 ++ [Ob.lst Y]) (acc := G ++ Y)
  have hs : ∀ μ, ∀ x ∈ G ++ Y, sm 7 μ x x = true := fun μ x hx => by
    rw [← hG, ← hY] at hx
    simp only [List.cons_append, List.nil_append, List.mem_cons, List.not_mem_nil, or_false] at hx
    rcases hx with rfl | rfl | rfl | rfl | rfl | rfl | rfl
    · exact sm_int ..
    · exact sm_int ..
    · refine sm_ints (n := 5) (fun x hx => ?_) (by simp [shs])
      obtain ⟨k, _, rfl⟩ := List.mem_map.mp hx
      exact sm_frac (n := 4)
    · refine sm_ints (n := 5) (fun x hx => ?_) (by simp [bks]; omega)
      obtain ⟨k, _, rfl⟩ := List.mem_map.mp hx
      simp [sm]
    · rfl
    · refine sm_ints (n := 5) (fun x hx => ?_) (by simp [tld])
      obtain ⟨k, _, rfl⟩ := List.mem_map.mp hx
      split
      · rfl
      · exact sm_int ..
    · rfl
  have fin := gsame (x := .ref lA) (y := .ref (μ11 ++ [Ob.lst Y]).length) (μ := μ11 ++ [Ob.lst Y] ++ [Ob.lst (G ++ Y)]) (by
    unfold sm
    simp only [q2, q3]
    simp only [List.length_append, hGl, hYl]
    rw [smL_refl (hs _)]
    rfl)
  simp only [dSeq_, dAsg_, dIf_, dIfS_, asB_, dTru_, dNotB_, dAndB_, dOrB_, dAnd_, dOr_, dNot_, notT_, byT_t, byT_f, fTru_bl, dOp_, dUn_, dApp_, dCons_, dNil_, dTup_, dLst_, dC_, dVar_0, dVar_1, dVar_2, dVar_3, dVar_4, dVar_5, dVar_6, dVar_7, dVar_S, dCall_, dSkip_, dRet_, dDrop_, R.bind_ok, R.thn_ok, R.nex_ok, seq_nx, seq_rt, toR_rt, toR_nx, gN_, aft_, unB_, unT_bl, Bool.not_true, Bool.not_false, Bool.false_eq_true, if_true, if_false, List.set_cons_succ, List.set_cons_zero, List.map_cons, List.map_nil, List.cons_append, List.nil_append, List.length_cons, List.length_nil, List.replicate_succ, List.replicate_zero, Nat.reduceAdd, Nat.reduceSub, Nat.reduceLeDiff, fAdd_int, fSub_int, ad2, fin]
  exact ⟨_, rfl⟩
theorem case_up (as : List PV) (v : PV) (_ : as.length = 3) (hv : caseF as = some v) : lowL as = true ∧ low v = true ∧ ∃ μ', f__law_case_right as [] = .ok v μ' := by
  unfold caseF at hv
  split at hv
  · rename_i p q c a n _
    split at hv
    · rename_i hk
      cases hv
      rw [Bool.and_eq_true, decide_eq_true_eq] at hk
      obtain ⟨μ', e⟩ := case_eq (p := p) (q := q) (c := c) (a := a) (n := n.toNat) (μ := []) (by rw [Int.toNat_of_nonneg (by omega)]; exact hk.1) (by omega)
      rw [Int.toNat_of_nonneg (by omega)] at e
      exact ⟨rfl, rfl, _, e⟩
    · cases hv
  · cases hv
theorem by_hand : okT (f__law_by_hand_right [] []) = true := by decide +kernel
theorem gcase {p q c a n : Int} {μ : Mu} (hk : okS p q c a n = true) (hn : 13 ≤ n) : gV caseF [rl p q c, .int a, .int n] μ = .ok (.bl true) μ := by
  unfold gV caseF
  simp only [hk, decide_eq_true hn, Bool.and_self, if_true]
end GB
set_option Elab.async false
set_option linter.all false
set_option maxRecDepth 100000
set_option maxHeartbeats 4000000
namespace GB
open PySem PySem.Spec PyProof.Rows L2
end GB
set_option Elab.async false
set_option linter.all false
set_option maxRecDepth 100000
set_option maxHeartbeats 2000000
namespace GB
open PySem L2
def Fr (l : Nat) (μ μ' : Mu) : Prop := ∀ k xs, k ≠ l → getL μ k = some xs → getL μ' k = some xs
theorem Fr.refl {l : Nat} {μ : Mu} : Fr l μ μ := fun _ _ _ h => h
theorem Fr.trans {l : Nat} {μ μ' μ'' : Mu} (a : Fr l μ μ') (b : Fr l μ' μ'') : Fr l μ μ'' := fun k xs hk h => b k xs hk (a k xs hk h)
theorem Fr.app {l : Nat} {μ ν : Mu} : Fr l μ (μ ++ ν) := fun _ _ _ h => getL_app h
theorem Fr.set {l : Nat} {μ : Mu} {o : Ob} : Fr l μ (μ.set l o) := fun k xs hk h => by rw [getL_set_ne (Ne.symm hk)]; exact h
end GB
set_option Elab.async false
set_option linter.all false
set_option maxRecDepth 100000
set_option maxHeartbeats 4000000
namespace GB
open PySem PySem.Spec PyProof.Rows L2
end GB
set_option Elab.async false
set_option linter.all false
set_option maxRecDepth 100000
set_option maxHeartbeats 2000000
namespace GB
open PySem L2
theorem right_ok {μ : Mu} {l n : Nat} {u : List PV} (hM : getM μ l = some u) (hu : UOk n u) (hn : n < 100000) :
    ∃ μ' u', f__law_right [.ref l] μ = .ok (.bl true) μ' ∧ getM μ' l = some u' ∧ UOk (n + 1000) u' ∧ Fr l μ μ' := by
  unfold f__law_right d__law_right
  rw [runF_]
  simp only [dSeq_, dAsg_, dIf_, dIfS_, asB_, dTru_, dNotB_, dAndB_, dOrB_, dAnd_, dOr_, dNot_, notT_, byT_t, byT_f, fTru_bl, dOp_, dUn_, dApp_, dCons_, dNil_, dTup_, dLst_, dC_, dVar_0, dVar_1, dVar_2, dVar_3, dVar_4, dVar_5, dVar_6, dVar_7, dVar_S, dCall_, dSkip_, dRet_, dDrop_, R.bind_ok, R.thn_ok, R.nex_ok, seq_nx, seq_rt, toR_rt, toR_nx, gN_, aft_, unB_, unT_bl, Bool.not_true, Bool.not_false, Bool.false_eq_true, if_true, if_false, List.set_cons_succ, List.set_cons_zero, List.map_cons, List.map_nil, List.cons_append, List.nil_append, List.length_cons, List.length_nil, List.replicate_succ, List.replicate_zero, Nat.reduceAdd, Nat.reduceSub, Nat.reduceLeDiff, fAdd_int, fSub_int, dFor_, diRng1_, rng1_ok (show (-4611686018427387904 : Int) ≤ 6 by decide) (show (6 : Int) < 4611686018427387904 by decide), show (6 : Int).toNat = 6 from rfl]
  generalize e : dForN _ _ _ _ _ _ _ = o
  have key : ∃ ρ' μ' u', o = .nx ρ' μ' ∧ getM μ' l = some u' ∧ UOk (n + 1000) u' ∧ Fr l μ μ' := by
    rw [← e]
    refine for_rng (n := 6) (Inv := fun i ρ μ' => ∃ (x1 x2 x3 : Option PV) (u' : List PV), ρ = [some (.ref l), x1, x2, x3] ∧ getM μ' l = some u' ∧ UOk (n + 10 * i) u' ∧ Fr l μ μ')
      (Q := fun o => ∃ ρ' μ' u', o = .nx ρ' μ' ∧ getM μ' l = some u' ∧ UOk (n + 1000) u' ∧ Fr l μ μ') (by unfold lid; omega) ⟨none, none, none, u, rfl, hM, hu, Fr.refl⟩ ?_ ?_
    · rintro ρ μ' ⟨x1, x2, x3, u', rfl, g1, g2, g3⟩
      exact ⟨_, μ', u', rfl, g1, g2.mono (by omega), g3⟩
    · rintro i ρ μ' hi ⟨x1, x2, x3, u', rfl, g1, g2, g3⟩
      refine ⟨_, _, rfl, ?_⟩
      have hp39 : ∀ μ, fPow (.int 10) (.int 39) μ = .ok (.int 1000000000000000000000000000000000000000) μ := fun μ => fPow_lit (by decide)
      have hp18 : ∀ μ, fPow (.int 10) (.int 18) μ = .ok (.int 1000000000000000000) μ := fun μ => fPow_lit (by decide)
      have ne1 : l ≠ μ'.length := by have := getM_lt g1; omega
      obtain ⟨x, u1, e1, m1, o1⟩ := of_ok (n := n + 10 * i) (m := μ'.length) (xs := [.int 0, .int 9, .int 1000000000000000000000000000000000000000]) (getM_app (ν := [Ob.lst [.int 0, .int 9, .int 1000000000000000000000000000000000000000]]) g1) g2 (by omega) getL_last ne1 (by decide) (by decide)
      obtain ⟨z, rfl, z1, z2⟩ : ∃ z, x = .int z ∧ 0 ≤ z ∧ z ≤ 1000000000000000000000000000000000000000 := by
        simp at m1
        rcases m1 with rfl | rfl | rfl <;> exact ⟨_, rfl, by omega, by omega⟩
      have k1 := getM_set (u' := u1) (getM_app (ν := [Ob.lst [.int 0, .int 9, .int 1000000000000000000000000000000000000000]]) g1)
      obtain ⟨p, q, c, u2, e2, hR, hpt, hct, o2⟩ := kin_big (t := 60) (m := z) k1 o1 (by omega) (by omega) (by omega) (by omega) (by omega)
      have f2 := Fr.trans (Fr.app (l := l) (μ := μ') (ν := [Ob.lst [.int 0, .int 9, .int 1000000000000000000000000000000000000000]])) (Fr.trans (Fr.set (o := .lst u1)) (Fr.set (o := .lst u2)))
      have k2 := getM_set (u' := u2) k1
      generalize ((μ' ++ [Ob.lst [PV.int 0, PV.int 9, PV.int 1000000000000000000000000000000000000000]]).set l (.lst u1)).set l (.lst u2) = μ2 at *
      obtain ⟨v, u3, e3, v1, v2, o3⟩ := take_ok (t := 1000000000000000000) k2 o2 (by omega) (by decide) (by decide)
      have f3 := Fr.set (l := l) (μ := μ2) (o := .lst u3)
      have k3 := getM_set (u' := u3) k2
      have hq := hR.q1
      have hqp := hR.pq
      have a2 : 1000000000000000000000000000000000000000 + v < nxt p q c (1000000000000000000000000000000000000000 + v) := start_ge hR (nxt_q hR) (by omega)
      have hC := gcase (μ := μ2.set l (.lst u3)) (n := 24) (okS_mk hR (by omega) a2 (by omega) (by omega) (by decide) (by decide)) (by decide)
      simp only [dSeq_, dAsg_, dIf_, dIfS_, asB_, dTru_, dNotB_, dAndB_, dOrB_, dAnd_, dOr_, dNot_, notT_, byT_t, byT_f, fTru_bl, dOp_, dUn_, dApp_, dCons_, dNil_, dTup_, dLst_, dC_, dVar_0, dVar_1, dVar_2, dVar_3, dVar_4, dVar_5, dVar_6, dVar_7, dVar_S, dCall_, dSkip_, dRet_, dDrop_, R.bind_ok, R.thn_ok, R.nex_ok, seq_nx, seq_rt, toR_rt, toR_nx, gN_, aft_, unB_, unT_bl, Bool.not_true, Bool.not_false, Bool.false_eq_true, if_true, if_false, List.set_cons_succ, List.set_cons_zero, List.map_cons, List.map_nil, List.cons_append, List.nil_append, List.length_cons, List.length_nil, List.replicate_succ, List.replicate_zero, Nat.reduceAdd, Nat.reduceSub, Nat.reduceLeDiff, fAdd_int, fSub_int, hp39, hp18, e1, e2, e3, hC, turnTo_nx]
      exact ⟨_, _, _, u3, rfl, k3, o3.mono (by omega), g3.trans (f2.trans f3)⟩
  obtain ⟨ρ', μ', u', rfl, g1, g2, g3⟩ := key
  exact ⟨μ', u', by simp only [dSeq_, dAsg_, dIf_, dIfS_, asB_, dTru_, dNotB_, dAndB_, dOrB_, dAnd_, dOr_, dNot_, notT_, byT_t, byT_f, fTru_bl, dOp_, dUn_, dApp_, dCons_, dNil_, dTup_, dLst_, dC_, dVar_0, dVar_1, dVar_2, dVar_3, dVar_4, dVar_5, dVar_6, dVar_7, dVar_S, dCall_, dSkip_, dRet_, dDrop_, R.bind_ok, R.thn_ok, R.nex_ok, seq_nx, seq_rt, toR_rt, toR_nx, gN_, aft_, unB_, unT_bl, Bool.not_true, Bool.not_false, Bool.false_eq_true, if_true, if_false, List.set_cons_succ, List.set_cons_zero, List.map_cons, List.map_nil, List.cons_append, List.nil_append, List.length_cons, List.length_nil, List.replicate_succ, List.replicate_zero, Nat.reduceAdd, Nat.reduceSub, Nat.reduceLeDiff, fAdd_int, fSub_int], g1, g2, g3⟩
end GB
set_option Elab.async false
set_option linter.all false
set_option maxRecDepth 100000
set_option maxHeartbeats 4000000
namespace GB
open PySem PySem.Spec PyProof.Rows L2
end GB
set_option Elab.async false
set_option linter.all false
set_option maxRecDepth 100000
set_option maxHeartbeats 2000000
namespace GB
open PySem L2
theorem script_at (ns : List Int) : getL (scriptP ns) 0 = some (ns.map .int) := rfl
/-- the law's end: every cell's urn drawn right, twice -/
theorem law_loop {b : DS} {ρ0 : Rho} {μ0 : Mu} {lc : Nat} {xs : List Int} (hx : xs.length ≤ 1000) (h0 : getL μ0 lc = some (xs.map .int)) {InvR : Rho → Prop} (hr : InvR ρ0)
    (step : ∀ (i : Nat) ρ μ, i < xs.length → InvR ρ → getL μ lc = some (xs.map .int) → ∃ ρ' μ', b (ρ.set 2 (some (.int (0 + (i : Int))))) μ = .nx ρ' μ' ∧ InvR ρ' ∧ getL μ' lc = some (xs.map .int)) :
    ∃ ρ' μ', dForN (jRng 0 xs.length) (gN 2) b lid 0 ρ0 μ0 = .nx ρ' μ' ∧ InvR ρ' := by
  refine for_rng (n := xs.length) (Inv := fun i ρ μ => InvR ρ ∧ getL μ lc = some (xs.map .int)) (Q := fun o => ∃ ρ' μ', o = .nx ρ' μ' ∧ InvR ρ') (by unfold lid; omega) ⟨hr, h0⟩ ?_ ?_
  · rintro ρ μ ⟨h1, h2⟩
    exact ⟨ρ, μ, rfl, h1⟩
  · rintro i ρ μ hi ⟨h1, h2⟩
    obtain ⟨ρ', μ', e, e1, e2⟩ := step i ρ μ hi h1 h2
    refine ⟨_, _, rfl, ?_⟩
    rw [e]
    exact ⟨e1, e2⟩
end GB
set_option Elab.async false
set_option linter.all false
set_option maxRecDepth 100000
set_option maxHeartbeats 4000000
namespace GB
open PySem PySem.Spec PyProof.Rows L2
end GB
set_option Elab.async false
set_option linter.all false
set_option maxRecDepth 100000
set_option maxHeartbeats 2000000
namespace GB
open PySem L2
theorem law_true (ns : List Int) (h : ns.length ≤ 63) (hb : ∀ z ∈ ns, Builtin.Int.intBits z ≤ 1048576) : ∃ μ, f_law [.ref 0] (scriptP ns) = .ok (.bl true) μ := by
  obtain ⟨lc, xs, μ1, e1, g1, x1, x2⟩ := cells_ok (script_at ns) h
  unfold f_law d_law
  rw [runF_]
  simp only [dSeq_, dIfS_, dNotB_, dTru_, dCall_, dNil_, R.bind_ok, List.length_nil, if_true, gV_hand, R.nex_ok, unT_bl, Bool.not_true, Bool.false_eq_true, if_false, R.thn_ok, dSkip_, seq_nx, dAsg_, dCons_, dVar_0, dVar_1, dC_, List.map_cons, List.map_nil, List.cons_append, List.nil_append, List.length_cons, List.replicate_succ, List.replicate_zero, Nat.reduceAdd, Nat.reduceSub, e1, gN_, aft_, List.set_cons_succ, List.set_cons_zero, dFor_, diRng1_, dApp_, fLen_ref g1, List.length_map, rng1_ok (show (-4611686018427387904 : Int) ≤ xs.length by omega) (show (xs.length : Int) < 4611686018427387904 by omega), Int.toNat_natCast]
  generalize e : dForN _ _ _ _ _ _ _ = o
  have key : ∃ ρ' μ', o = .nx ρ' μ' ∧ (∃ x2 x3, ρ' = [some (.ref 0), some (.ref lc), x2, x3]) := by
    rw [← e]
    refine law_loop (InvR := fun ρ => ∃ x2 x3, ρ = [some (.ref 0), some (.ref lc), x2, x3]) (by omega) g1 ⟨_, _, rfl⟩ ?_
    rintro i ρ μ hi ⟨x2, x3, rfl⟩ hc
    obtain ⟨u, e2, o2⟩ := box_ok hc hi (by omega)
    have ne : lc ≠ μ.length := by have := getL_lt hc; omega
    obtain ⟨μ3, u3, e3, k3, o3, f3⟩ := right_ok (l := μ.length) (getM_last (μ := μ) (acc := u)) o2 (by omega)
    obtain ⟨μ4, u4, e4, k4, o4, f4⟩ := right_ok k3 o3 (by omega)
    refine ⟨[some (.ref 0), some (.ref lc), some (.int i), some (.ref μ.length)], μ4, ?_, ⟨_, _, rfl⟩, f4 _ _ ne (f3 _ _ ne (getL_app hc))⟩
    simp only [dSeq_, dAsg_, dCall_, dCons_, dNil_, dVar_0, dVar_1, dVar_2, dVar_3, R.bind_ok, List.length_cons, List.length_nil, Nat.reduceAdd, if_true, List.set_cons_succ, List.set_cons_zero, Int.zero_add, e2, R.nex_ok, R.thn_ok, gN_, aft_, seq_nx, dIfS_, dOrB_, dNotB_, dTru_, e3, e4, unT_bl, Bool.not_true, Bool.false_eq_true, if_false, dSkip_]
  obtain ⟨ρ', μ', rfl, x2, x3, rfl⟩ := key
  exact ⟨μ', by simp only [seq_nx, dRet_, dC_, R.thn_ok, toR_rt]⟩
end GB
set_option Elab.async false
set_option linter.all false
set_option maxRecDepth 100000
set_option maxHeartbeats 4000000
namespace GB
open PySem PySem.Spec PyProof.Rows L2
end GB
set_option Elab.async false
set_option linter.all false
set_option maxRecDepth 100000
set_option maxHeartbeats 4000000
namespace GB
open PySem PySem.Spec PyProof.Rows L2

variable {P : Program} {w : World} {K : PySem.W.Frag} {mg : Str → Option Value} {base : Heap}
theorem sc_is_number : FnScope ["thing"] ["thing"] (defScope st_is_number) := ⟨rfl, rfl, rfl, by decide +kernel, rfl, by decide +kernel, by decide +kernel⟩
theorem ok_is_number {f : Addr} {fd : FuncData} (F : FnP K "is_number" st_is_number f fd) (hm : mg "is_number" = some (.ref f)) (B : Blt mg) : Cal P w K mg base "is_number" 1 1 f_is_number :=
  have nd := sc_is_number.nd
  cal_of (ps := ["thing"]) F sc_is_number rfl hm (fun _ _ _ _ _ _ us hl => match us, hl with | [_], _ => rfl) fun cdv A outer s H E hr =>
    ss_one (s_ret (e_and (e_isi (by rfl) B.isinstance (e_var 0) (c_cons (by rfl) B.int (by decide +kernel) (c_nil))) (e_one (e_not (e_isi (by rfl) B.isinstance (e_var 0) (c_cons (by rfl) B.bool (by decide +kernel) (c_nil)))))))
theorem sc_tupled : FnScope ["thing", "part"] ["thing"] (defScope st_tupled) := ⟨rfl, rfl, rfl, by decide +kernel, rfl, by decide +kernel, by decide +kernel⟩
theorem okr_tupled {f : Addr} {fd : FuncData} (F : FnP K "tupled" st_tupled f fd) (hm : mg "tupled" = some (.ref f)) (B : Blt mg) : ∀ n : Nat, Cal P w K mg base "tupled" (n + 0) 1 (f_tupled n)
  | 0 => cal_bad F sc_tupled rfl hm (fun _ _ _ _ _ _ us hl => match us, hl with | [_], _ => rfl)
  | n + 1 => have c_tupled := okr_tupled F hm B n
    have nd := sc_tupled.nd
    cal_of (ps := ["thing"]) F sc_tupled rfl hm (fun _ _ _ _ _ _ us hl => match us, hl with | [_], _ => rfl) fun cdv A outer s H E hr =>
    ss_one (s_ret (e_if (t_val (e_isiL (by rfl) B.isinstance (e_var 0) (c_cons (by rfl) B.list (by decide +kernel) (c_cons (by rfl) B.tuple (by decide +kernel) (c_nil))) (by decide))) (e_tuple B.tuple (a_cons (e_lc (own := [("part", 1)]) rfl nd (i_seq (e_var 0)) (by exact blkOk_by (N := ["thing", "part"]) (sc := defScope st_tupled) (by decide +kernel)) (fun _ _ _ _ _ => pg_name (i := 1) nd rfl (by first | exact Or.inl rfl | exact Or.inr rfl)) (fun _ _ _ _ _ => ts_nil) (fun _ _ _ _ _ => e_callC c_tupled (hr.mono (by omega)) (a_cons (e_var 1) (a_nil))) (ct_name (by decide))) (a_nil))) (e_var 0)))
theorem ok_tupled {f : Addr} {fd : FuncData} (F : FnP K "tupled" st_tupled f fd) (hm : mg "tupled" = some (.ref f)) (B : Blt mg) : Cal P w K mg base "tupled" 8 1 (f_tupled 8) := (okr_tupled F hm B 8).up (by decide)
theorem sc_fraction : FnScope ["top", "bottom", "common", "rest"] ["top", "bottom"] (defScope st_fraction) := ⟨rfl, rfl, rfl, by decide +kernel, rfl, by decide +kernel, by decide +kernel⟩
theorem ok_fraction {f : Addr} {fd : FuncData} (F : FnP K "fraction" st_fraction f fd) (hm : mg "fraction" = some (.ref f)) (B : Blt mg) : Cal P w K mg base "fraction" 1 2 f_fraction :=
  have nd := sc_fraction.nd
  cal_of (ps := ["top", "bottom"]) F sc_fraction rfl hm (fun _ _ _ _ _ _ us hl => match us, hl with | [_, _], _ => rfl) fun cdv A outer s H E hr =>
    ss_cons (s_par rfl nd (a_cons (e_abs B.abs (a_cons (e_var 0) (a_nil))) (a_cons (e_var 1) (a_nil)))) (ss_cons (s_while PassesOwn.never (t_ne hr.units (e_var 3) (e_int)) (ss_one (s_par rfl nd (a_cons (e_var 3) (a_cons (e_mod (e_var 2) (e_var 3)) (a_nil)))))) (ss_one (s_ret (e_tup (a_cons (e_div (e_var 0) (e_var 2)) (a_cons (e_div (e_var 1) (e_var 2)) (a_nil)))))))
theorem sc_next_size : FnScope ["rule", "size", "top", "bottom", "more"] ["rule", "size"] (defScope st_next_size) := ⟨rfl, rfl, rfl, by decide +kernel, rfl, by decide +kernel, by decide +kernel⟩
theorem ok_next_size {f : Addr} {fd : FuncData} (F : FnP K "next_size" st_next_size f fd) (hm : mg "next_size" = some (.ref f)) (B : Blt mg) : Cal P w K mg base "next_size" 1 2 f_next_size :=
  have nd := sc_next_size.nd
  cal_of (ps := ["rule", "size"]) F sc_next_size rfl hm (fun _ _ _ _ _ _ us hl => match us, hl with | [_, _], _ => rfl) fun cdv A outer s H E hr =>
    ss_cons (s_asg (e_var 0) (g_tup rfl (gs_cons (g_name nd) (gs_cons (g_name nd) (gs_cons (g_name nd) (gs_nil)))))) (ss_one (s_ret (e_add (e_div (e_mulI (e_var 2) (e_var 1)) (e_var 3)) (e_var 4))))
theorem sc_is_start : FnScope ["rule", "thing"] ["rule", "thing"] (defScope st_is_start) := ⟨rfl, rfl, rfl, by decide +kernel, rfl, by decide +kernel, by decide +kernel⟩
theorem ok_is_start {f : Addr} {fd : FuncData} (F : FnP K "is_start" st_is_start f fd) (hm : mg "is_start" = some (.ref f)) (B : Blt mg) (c_is_number : Cal P w K mg base "is_number" 1 1 f_is_number) (c_next_size : Cal P w K mg base "next_size" 1 2 f_next_size) : Cal P w K mg base "is_start" 2 2 f_is_start :=
  have nd := sc_is_start.nd
  cal_of (ps := ["rule", "thing"]) F sc_is_start rfl hm (fun _ _ _ _ _ _ us hl => match us, hl with | [_, _], _ => rfl) fun cdv A outer s H E hr =>
    ss_one (s_ret (e_and (e_callC c_is_number (hr.mono (by decide)) (a_cons (e_var 1) (a_nil))) (e_and (e_ge (e_var 1) (e_int)) (e_one (e_gt (e_callC c_next_size (hr.mono (by decide)) (a_cons (e_var 0) (a_cons (e_var 1) (a_nil)))) (e_var 1))))))
theorem sc_check_start : FnScope ["rule", "start"] ["rule", "start"] (defScope st_check_start) := ⟨rfl, rfl, rfl, by decide +kernel, rfl, by decide +kernel, by decide +kernel⟩
theorem ok_check_start {f : Addr} {fd : FuncData} (F : FnP K "check_start" st_check_start f fd) (hm : mg "check_start" = some (.ref f)) (B : Blt mg) (c_is_start : Cal P w K mg base "is_start" 2 2 f_is_start) : Cal P w K mg base "check_start" 3 2 f_check_start :=
  have nd := sc_check_start.nd
  cal_of (ps := ["rule", "start"]) F sc_check_start rfl hm (fun _ _ _ _ _ _ us hl => match us, hl with | [_, _], _ => rfl) fun cdv A outer s H E hr =>
    ss_one (s_if (t_not (t_truth (e_callC c_is_start (hr.mono (by decide)) (a_cons (e_var 0) (a_cons (e_var 1) (a_nil)))))) (ss_one (s_never)) (ss_nil))
theorem sc_blocks_along : FnScope ["rule", "start", "many", "found", "number", "later", "place", "size"] ["rule", "start", "many"] (defScope st_blocks_along) := ⟨rfl, rfl, rfl, by decide +kernel, rfl, by decide +kernel, by decide +kernel⟩
theorem ok_blocks_along {f : Addr} {fd : FuncData} (F : FnP K "blocks_along" st_blocks_along f fd) (hm : mg "blocks_along" = some (.ref f)) (B : Blt mg) (c_check_start : Cal P w K mg base "check_start" 3 2 f_check_start) (c_next_size : Cal P w K mg base "next_size" 1 2 f_next_size) : Cal P w K mg base "blocks_along" 4 3 f_blocks_along :=
  have nd := sc_blocks_along.nd
  cal_of (ps := ["rule", "start", "many"]) F sc_blocks_along rfl hm (fun _ _ _ _ _ _ us hl => match us, hl with | [_, _, _], _ => rfl) fun cdv A outer s H E hr =>
    ss_cons (s_expr (e_callC c_check_start (hr.mono (by decide)) (a_cons (e_var 0) (a_cons (e_var 1) (a_nil))))) (ss_cons (s_set nd (e_lst (a_cons (e_tup (a_cons (e_int) (a_cons (e_var 1) (a_nil)))) (a_nil)))) (ss_cons (s_for PassesOwn.never rfl (i_rng1 B.range (a_cons (e_var 2) (a_nil))) (g_name nd) (ss_cons (s_asg (e_ix (e_var 3) (e_neg (e_int))) (g_tup rfl (gs_cons (g_name nd) (gs_cons (g_name nd) (gs_nil))))) (ss_cons (s_set nd (e_callC c_next_size (hr.mono (by decide)) (a_cons (e_var 0) (a_cons (e_var 7) (a_nil))))) (ss_one (s_expr (e_append (e_var 3) (a_cons (e_tup (a_cons (e_if (t_le (e_var 5) (e_var 6)) (e_int) (e_add (e_var 6) (e_var 7))) (a_cons (e_var 5) (a_nil)))) (a_nil)))))))) (ss_one (s_ret (e_var 3)))))
theorem sc_needs : FnScope ["rule", "start", "many", "rows", "old", "new"] ["rule", "start", "many"] (defScope st_needs) := ⟨rfl, rfl, rfl, by decide +kernel, rfl, by decide +kernel, by decide +kernel⟩
theorem ok_needs {f : Addr} {fd : FuncData} (F : FnP K "needs" st_needs f fd) (hm : mg "needs" = some (.ref f)) (B : Blt mg) (c_blocks_along : Cal P w K mg base "blocks_along" 4 3 f_blocks_along) : Cal P w K mg base "needs" 5 3 f_needs :=
  have nd := sc_needs.nd
  cal_of (ps := ["rule", "start", "many"]) F sc_needs rfl hm (fun _ _ _ _ _ _ us hl => match us, hl with | [_, _, _], _ => rfl) fun cdv A outer s H E hr =>
    ss_cons (s_set nd (e_callC c_blocks_along (hr.mono (by decide)) (a_cons (e_var 0) (a_cons (e_var 1) (a_cons (e_var 2) (a_nil)))))) (ss_one (s_ret (e_lc (own := [("old", 4), ("new", 5)]) rfl nd (i_zip B.zip (a_cons (e_var 3) (a_cons (e_sl (e_var 3) (o_some (e_int)) (o_none)) (a_nil)))) (by exact blkOk_by (N := ["rule", "start", "many", "rows", "old", "new"]) (sc := defScope st_needs) (by decide +kernel)) (fun _ _ _ _ _ => pg_tup rfl (pgs_cons (pg_name (i := 4) nd rfl (by first | exact Or.inl rfl | exact Or.inr rfl)) (pgs_cons (pg_name (i := 5) nd rfl (by first | exact Or.inl rfl | exact Or.inr rfl)) (pgs_nil)))) (fun _ _ _ _ _ => ts_nil) (fun _ _ _ _ _ => e_max B.max (a_cons (e_sum B.sum (a_cons (e_var 4) (a_nil))) (a_cons (e_sum B.sum (a_cons (e_var 5) (a_nil))) (a_nil)))) (ct_two (by decide) (by decide)))))
theorem sc_cells_needed : FnScope ["rule", "start", "number"] ["rule", "start", "number"] (defScope st_cells_needed) := ⟨rfl, rfl, rfl, by decide +kernel, rfl, by decide +kernel, by decide +kernel⟩
theorem ok_cells_needed {f : Addr} {fd : FuncData} (F : FnP K "cells_needed" st_cells_needed f fd) (hm : mg "cells_needed" = some (.ref f)) (B : Blt mg) (c_needs : Cal P w K mg base "needs" 5 3 (gL needsF)) : Cal P w K mg base "cells_needed" 6 3 f_cells_needed :=
  have nd := sc_cells_needed.nd
  cal_of (ps := ["rule", "start", "number"]) F sc_cells_needed rfl hm (fun _ _ _ _ _ _ us hl => match us, hl with | [_, _, _], _ => rfl) fun cdv A outer s H E hr =>
    ss_one (s_ret (e_ix (e_callC c_needs (hr.mono (by decide)) (a_cons (e_var 0) (a_cons (e_var 1) (a_cons (e_var 2) (a_nil))))) (e_neg (e_int))))
theorem sc_mark_of : FnScope ["rule", "start", "number"] ["rule", "start", "number"] (defScope st_mark_of) := ⟨rfl, rfl, rfl, by decide +kernel, rfl, by decide +kernel, by decide +kernel⟩
theorem ok_mark_of {f : Addr} {fd : FuncData} (F : FnP K "mark_of" st_mark_of f fd) (hm : mg "mark_of" = some (.ref f)) (B : Blt mg) (c_needs : Cal P w K mg base "needs" 5 3 (gL needsF)) : Cal P w K mg base "mark_of" 6 3 f_mark_of :=
  have nd := sc_mark_of.nd
  cal_of (ps := ["rule", "start", "number"]) F sc_mark_of rfl hm (fun _ _ _ _ _ _ us hl => match us, hl with | [_, _, _], _ => rfl) fun cdv A outer s H E hr =>
    ss_one (s_ret (e_max B.max (a_cons (e_lst (a_cons (e_var 1) (a_star (e_callC c_needs (hr.mono (by decide)) (a_cons (e_var 0) (a_cons (e_var 1) (a_cons (e_var 2) (a_nil))))) (a_nil)))) (a_nil))))
theorem sc_shares : FnScope ["rule", "start", "number", "rows", "old", "new"] ["rule", "start", "number"] (defScope st_shares) := ⟨rfl, rfl, rfl, by decide +kernel, rfl, by decide +kernel, by decide +kernel⟩
theorem ok_shares {f : Addr} {fd : FuncData} (F : FnP K "shares" st_shares f fd) (hm : mg "shares" = some (.ref f)) (B : Blt mg) (c_blocks_along : Cal P w K mg base "blocks_along" 4 3 f_blocks_along) (c_fraction : Cal P w K mg base "fraction" 1 2 f_fraction) : Cal P w K mg base "shares" 5 3 f_shares :=
  have nd := sc_shares.nd
  cal_of (ps := ["rule", "start", "number"]) F sc_shares rfl hm (fun _ _ _ _ _ _ us hl => match us, hl with | [_, _, _], _ => rfl) fun cdv A outer s H E hr =>
    ss_cons (s_set nd (e_callC c_blocks_along (hr.mono (by decide)) (a_cons (e_var 0) (a_cons (e_var 1) (a_cons (e_var 2) (a_nil)))))) (ss_one (s_ret (e_tuple B.tuple (a_cons (e_lc (own := [("old", 4), ("new", 5)]) rfl nd (i_zip B.zip (a_cons (e_var 3) (a_cons (e_sl (e_var 3) (o_some (e_int)) (o_none)) (a_nil)))) (by exact blkOk_by (N := ["rule", "start", "number", "rows", "old", "new"]) (sc := defScope st_shares) (by decide +kernel)) (fun _ _ _ _ _ => pg_tup rfl (pgs_cons (pg_name (i := 4) nd rfl (by first | exact Or.inl rfl | exact Or.inr rfl)) (pgs_cons (pg_name (i := 5) nd rfl (by first | exact Or.inl rfl | exact Or.inr rfl)) (pgs_nil)))) (fun _ _ _ _ _ => ts_nil) (fun _ _ _ _ _ => e_callC c_fraction (hr.mono (by decide)) (a_cons (e_max B.max (a_cons (e_sum B.sum (a_cons (e_var 4) (a_nil))) (a_cons (e_sum B.sum (a_cons (e_var 5) (a_nil))) (a_nil)))) (a_cons (e_ix (e_var 5) (e_int)) (a_nil)))) (ct_two (by decide) (by decide))) (a_nil)))))
theorem sc_share : FnScope ["rule", "start", "number"] ["rule", "start", "number"] (defScope st_share) := ⟨rfl, rfl, rfl, by decide +kernel, rfl, by decide +kernel, by decide +kernel⟩
theorem ok_share {f : Addr} {fd : FuncData} (F : FnP K "share" st_share f fd) (hm : mg "share" = some (.ref f)) (B : Blt mg) (c_shares : Cal P w K mg base "shares" 5 3 (gV sharesF)) : Cal P w K mg base "share" 6 3 f_share :=
  have nd := sc_share.nd
  cal_of (ps := ["rule", "start", "number"]) F sc_share rfl hm (fun _ _ _ _ _ _ us hl => match us, hl with | [_, _, _], _ => rfl) fun cdv A outer s H E hr =>
    ss_one (s_ret (e_ix (e_callC c_shares (hr.mono (by decide)) (a_cons (e_var 0) (a_cons (e_var 1) (a_cons (e_var 2) (a_nil))))) (e_neg (e_int))))
theorem sc_is_less : FnScope ["one", "other"] ["one", "other"] (defScope st_is_less) := ⟨rfl, rfl, rfl, by decide +kernel, rfl, by decide +kernel, by decide +kernel⟩
theorem ok_is_less {f : Addr} {fd : FuncData} (F : FnP K "is_less" st_is_less f fd) (hm : mg "is_less" = some (.ref f)) (B : Blt mg) : Cal P w K mg base "is_less" 1 2 f_is_less :=
  have nd := sc_is_less.nd
  cal_of (ps := ["one", "other"]) F sc_is_less rfl hm (fun _ _ _ _ _ _ us hl => match us, hl with | [_, _], _ => rfl) fun cdv A outer s H E hr =>
    ss_one (s_ret (e_lt (e_mulI (e_ix (e_var 0) (e_int)) (e_ix (e_var 1) (e_int))) (e_mulI (e_ix (e_var 1) (e_int)) (e_ix (e_var 0) (e_int)))))
theorem sc_greatest_share : FnScope ["rule", "start", "number", "best", "place", "own"] ["rule", "start", "number"] (defScope st_greatest_share) := ⟨rfl, rfl, rfl, by decide +kernel, rfl, by decide +kernel, by decide +kernel⟩
theorem ok_greatest_share {f : Addr} {fd : FuncData} (F : FnP K "greatest_share" st_greatest_share f fd) (hm : mg "greatest_share" = some (.ref f)) (B : Blt mg) (c_shares : Cal P w K mg base "shares" 5 3 (gV sharesF)) (c_is_less : Cal P w K mg base "is_less" 1 2 f_is_less) : Cal P w K mg base "greatest_share" 6 3 f_greatest_share :=
  have nd := sc_greatest_share.nd
  cal_of (ps := ["rule", "start", "number"]) F sc_greatest_share rfl hm (fun _ _ _ _ _ _ us hl => match us, hl with | [_, _, _], _ => rfl) fun cdv A outer s H E hr =>
    ss_cons (s_set nd (e_non)) (ss_cons (s_for PassesOwn.never rfl (i_en B.enumerate (a_cons (e_callC c_shares (hr.mono (by decide)) (a_cons (e_var 0) (a_cons (e_var 1) (a_cons (e_var 2) (a_nil))))) (a_nil))) (g_tup rfl (gs_cons (g_name nd) (gs_cons (g_name nd) (gs_nil)))) (ss_one (s_if (PW.pt (w_or (t_isN (e_var 3)) (w_or1 (t_truth (e_callC c_is_less (hr.mono (by decide)) (a_cons (e_ix (e_var 3) (e_int)) (a_cons (e_var 5) (a_nil)))))))) (ss_one (s_set nd (e_tup (a_cons (e_add (e_var 4) (e_int)) (a_cons (e_var 5) (a_nil)))))) (ss_nil)))) (ss_one (s_ret (e_var 3))))
theorem sc_is_read_by : FnScope ["rule", "reading", "own", "place", "size"] ["rule", "reading"] (defScope st_is_read_by) := ⟨rfl, rfl, rfl, by decide +kernel, rfl, by decide +kernel, by decide +kernel⟩
theorem ok_is_read_by {f : Addr} {fd : FuncData} (F : FnP K "is_read_by" st_is_read_by f fd) (hm : mg "is_read_by" = some (.ref f)) (B : Blt mg) (c_tupled : Cal P w K mg base "tupled" 8 1 (gV tupF)) (c_is_start : Cal P w K mg base "is_start" 2 2 f_is_start) (c_blocks_along : Cal P w K mg base "blocks_along" 4 3 f_blocks_along) : Cal P w K mg base "is_read_by" 9 2 f_is_read_by :=
  have nd := sc_is_read_by.nd
  cal_of (ps := ["rule", "reading"]) F sc_is_read_by rfl hm (fun _ _ _ _ _ _ us hl => match us, hl with | [_, _], _ => rfl) fun cdv A outer s H E hr =>
    ss_cons (s_set nd (e_callC c_tupled (hr.mono (by decide)) (a_cons (e_var 1) (a_nil)))) (ss_cons (s_if (t_eq hr.units (e_len B.len (a_cons (e_var 2) (a_nil))) (e_int)) (ss_one (s_ret (e_bl))) (ss_nil)) (ss_cons (s_if (t_not (t_truth (e_callC c_is_start (hr.mono (by decide)) (a_cons (e_var 0) (a_cons (e_ix (e_var 2) (e_int)) (a_nil)))))) (ss_one (s_ret (e_bl))) (ss_nil)) (ss_one (s_ret (e_eq hr.units (e_tuple B.tuple (a_cons (e_lc (own := [("place", 3), ("size", 4)]) rfl nd (i_seq (e_sl (e_callC c_blocks_along (hr.mono (by decide)) (a_cons (e_var 0) (a_cons (e_ix (e_var 2) (e_int)) (a_cons (e_len B.len (a_cons (e_var 2) (a_nil))) (a_nil))))) (o_some (e_int)) (o_none))) (by exact blkOk_by (N := ["rule", "reading", "own", "place", "size"]) (sc := defScope st_is_read_by) (by decide +kernel)) (fun _ _ _ _ _ => pg_tup rfl (pgs_cons (pg_name (i := 3) nd rfl (by first | exact Or.inl rfl | exact Or.inr rfl)) (pgs_cons (pg_name (i := 4) nd rfl (by first | exact Or.inl rfl | exact Or.inr rfl)) (pgs_nil)))) (fun _ _ _ _ _ => ts_nil) (fun _ _ _ _ _ => e_var 3) (ct_two (by decide) (by decide))) (a_nil))) (e_var 2))))))
theorem sc_sizes_read : FnScope ["reading", "rows", "place", "later"] ["reading"] (defScope st_sizes_read) := ⟨rfl, rfl, rfl, by decide +kernel, rfl, by decide +kernel, by decide +kernel⟩
theorem ok_sizes_read {f : Addr} {fd : FuncData} (F : FnP K "sizes_read" st_sizes_read f fd) (hm : mg "sizes_read" = some (.ref f)) (B : Blt mg) : Cal P w K mg base "sizes_read" 1 1 f_sizes_read :=
  have nd := sc_sizes_read.nd
  cal_of (ps := ["reading"]) F sc_sizes_read rfl hm (fun _ _ _ _ _ _ us hl => match us, hl with | [_], _ => rfl) fun cdv A outer s H E hr =>
    ss_cons (s_set nd (e_lst (a_cons (e_int) (a_star (e_var 0) (a_nil))))) (ss_one (s_ret (e_tuple B.tuple (a_cons (e_lc (own := [("place", 2), ("later", 3)]) rfl nd (i_zip B.zip (a_cons (e_var 1) (a_cons (e_sl (e_var 1) (o_some (e_int)) (o_none)) (a_nil)))) (by exact blkOk_by (N := ["reading", "rows", "place", "later"]) (sc := defScope st_sizes_read) (by decide +kernel)) (fun _ _ _ _ _ => pg_tup rfl (pgs_cons (pg_name (i := 2) nd rfl (by first | exact Or.inl rfl | exact Or.inr rfl)) (pgs_cons (pg_name (i := 3) nd rfl (by first | exact Or.inl rfl | exact Or.inr rfl)) (pgs_nil)))) (fun _ _ _ _ _ => ts_nil) (fun _ _ _ _ _ => e_if (t_eq hr.units (e_var 3) (e_int)) (e_non) (e_sub (e_var 3) (e_var 2))) (ct_two (by decide) (by decide))) (a_nil)))))
theorem sc_backs_read : FnScope ["rule", "start", "number", "place", "size"] ["rule", "start", "number"] (defScope st_backs_read) := ⟨rfl, rfl, rfl, by decide +kernel, rfl, by decide +kernel, by decide +kernel⟩
theorem ok_backs_read {f : Addr} {fd : FuncData} (F : FnP K "backs_read" st_backs_read f fd) (hm : mg "backs_read" = some (.ref f)) (B : Blt mg) (c_blocks_along : Cal P w K mg base "blocks_along" 4 3 f_blocks_along) : Cal P w K mg base "backs_read" 5 3 f_backs_read :=
  have nd := sc_backs_read.nd
  cal_of (ps := ["rule", "start", "number"]) F sc_backs_read rfl hm (fun _ _ _ _ _ _ us hl => match us, hl with | [_, _, _], _ => rfl) fun cdv A outer s H E hr =>
    ss_one (s_ret (e_tuple B.tuple (a_cons (e_lc (own := [("place", 3), ("size", 4)]) rfl nd (i_seq (e_sl (e_callC c_blocks_along (hr.mono (by decide)) (a_cons (e_var 0) (a_cons (e_var 1) (a_cons (e_var 2) (a_nil))))) (o_some (e_int)) (o_none))) (by exact blkOk_by (N := ["rule", "start", "number", "place", "size"]) (sc := defScope st_backs_read) (by decide +kernel)) (fun _ _ _ _ _ => pg_tup rfl (pgs_cons (pg_name (i := 3) nd rfl (by first | exact Or.inl rfl | exact Or.inr rfl)) (pgs_cons (pg_name (i := 4) nd rfl (by first | exact Or.inl rfl | exact Or.inr rfl)) (pgs_nil)))) (fun _ _ _ _ _ => ts_nil) (fun _ _ _ _ _ => e_eq hr.units (e_var 3) (e_int)) (ct_two (by decide) (by decide))) (a_nil))))
theorem sc_growths_to_part : FnScope ["one", "other", "start", "near", "far", "place", "back"] ["one", "other", "start"] (defScope st_growths_to_part) := ⟨rfl, rfl, rfl, by decide +kernel, rfl, by decide +kernel, by decide +kernel⟩
theorem ok_growths_to_part {f : Addr} {fd : FuncData} (F : FnP K "growths_to_part" st_growths_to_part f fd) (hm : mg "growths_to_part" = some (.ref f)) (B : Blt mg) (c_check_start : Cal P w K mg base "check_start" 3 2 f_check_start) (c_backs_read : Cal P w K mg base "backs_read" 5 3 (gV backsF)) {t_MOST : Tok} (g_MOST : mg "MOST" = some (.int 60 t_MOST)) : Cal P w K mg base "growths_to_part" 6 3 f_growths_to_part :=
  have nd := sc_growths_to_part.nd
  cal_of (ps := ["one", "other", "start"]) F sc_growths_to_part rfl hm (fun _ _ _ _ _ _ us hl => match us, hl with | [_, _, _], _ => rfl) fun cdv A outer s H E hr =>
    ss_cons (s_expr (e_callC c_check_start (hr.mono (by decide)) (a_cons (e_var 0) (a_cons (e_var 2) (a_nil))))) (ss_cons (s_expr (e_callC c_check_start (hr.mono (by decide)) (a_cons (e_var 1) (a_cons (e_var 2) (a_nil))))) (ss_cons (s_asg (e_tup (a_cons (e_callC c_backs_read (hr.mono (by decide)) (a_cons (e_var 0) (a_cons (e_var 2) (a_cons (e_globI (by rfl) g_MOST) (a_nil))))) (a_cons (e_callC c_backs_read (hr.mono (by decide)) (a_cons (e_var 1) (a_cons (e_var 2) (a_cons (e_globI (by rfl) g_MOST) (a_nil))))) (a_nil)))) (g_tup rfl (gs_cons (g_name nd) (gs_cons (g_name nd) (gs_nil))))) (ss_one (s_ret (e_minD B.min (a_cons (e_lc (own := [("place", 5), ("back", 6)]) rfl nd (i_en B.enumerate (a_cons (e_var 3) (a_nil))) (by exact blkOk_by (N := ["one", "other", "start", "near", "far", "place", "back"]) (sc := defScope st_growths_to_part) (by decide +kernel)) (fun _ _ _ _ _ => pg_tup rfl (pgs_cons (pg_name (i := 5) nd rfl (by first | exact Or.inl rfl | exact Or.inr rfl)) (pgs_cons (pg_name (i := 6) nd rfl (by first | exact Or.inl rfl | exact Or.inr rfl)) (pgs_nil)))) (fun _ _ _ _ _ => ts_one (t_ne hr.units (e_var 6) (e_ix (e_var 4) (e_var 5)))) (fun _ _ _ _ _ => e_add (e_var 5) (e_int)) (ct_two (by decide) (by decide))) (a_nil)) (e_non))))))
theorem sc__law_box : FnScope ["_law_script", "_law_k", "_law_great_so"] ["_law_script", "_law_k"] (defScope st__law_box) := ⟨rfl, rfl, rfl, by decide +kernel, rfl, by decide +kernel, by decide +kernel⟩
theorem ok__law_box {f : Addr} {fd : FuncData} (F : FnP K "_law_box" st__law_box f fd) (hm : mg "_law_box" = some (.ref f)) (B : Blt mg) : Cal P w K mg base "_law_box" 1 2 f__law_box :=
  have nd := sc__law_box.nd
  cal_of (ps := ["_law_script", "_law_k"]) F sc__law_box rfl hm (fun _ _ _ _ _ _ us hl => match us, hl with | [_, _], _ => rfl) fun cdv A outer s H E hr =>
    ss_cons (s_set nd (e_if (t_lt (e_var 1) (e_len B.len (a_cons (e_var 0) (a_nil)))) (e_ix (e_var 0) (e_var 1)) (e_int))) (ss_one (s_ret (e_lst (a_cons (e_mulI (e_abs B.abs (a_cons (e_var 2) (a_nil))) (e_intc B.int (a_cons (e_ge (e_abs B.abs (a_cons (e_var 2) (a_nil))) (e_pow (e_int) (e_int))) (a_nil)))) (a_cons (e_add (e_add (e_mod (e_intc B.int (a_cons (e_var 2) (a_nil))) (e_int)) (e_mulI (e_int) (e_var 1))) (e_int)) (a_cons (e_int) (a_nil)))))))
theorem sc__law_take : FnScope ["_law_tin", "_law_top_so", "_law_once", "_law_far", "_law_twice", "_law_digit_so"] ["_law_tin", "_law_top_so"] (defScope st__law_take) := ⟨rfl, rfl, rfl, by decide +kernel, rfl, by decide +kernel, by decide +kernel⟩
theorem ok__law_take {f : Addr} {fd : FuncData} (F : FnP K "_law_take" st__law_take f fd) (hm : mg "_law_take" = some (.ref f)) (B : Blt mg) : Cal P w K mg base "_law_take" 1 2 f__law_take :=
  have nd := sc__law_take.nd
  cal_of (ps := ["_law_tin", "_law_top_so"]) F sc__law_take rfl hm (fun _ _ _ _ _ _ us hl => match us, hl with | [_, _], _ => rfl) fun cdv A outer s H E hr =>
    ss_cons (s_if (t_gt (e_ix (e_var 0) (e_int)) (e_int)) (ss_cons (s_set nd (e_mod (e_intc B.int (a_cons (e_ix (e_var 0) (e_int)) (a_nil))) (e_var 1))) (ss_cons (s_asg (e_div (e_ix (e_var 0) (e_int)) (e_var 1)) (g_sub (e_var 0) (e_int))) (ss_one (s_ret (e_var 5))))) (ss_nil)) (ss_cons (s_asg (e_add (e_ix (e_var 0) (e_int)) (e_int)) (g_sub (e_var 0) (e_int))) (ss_cons (s_set nd (e_mod (e_intc B.int (a_cons (e_mulI (e_add (e_ix (e_var 0) (e_int)) (e_mulI (e_int) (e_ix (e_var 0) (e_int)))) (e_add (e_int) (e_ix (e_var 0) (e_int)))) (a_nil))) (e_int))) (ss_cons (s_set nd (e_add (e_mod (e_intc B.int (a_cons (e_var 2) (a_nil))) (e_int)) (e_int))) (ss_cons (s_set nd (e_mod (e_intc B.int (a_cons (e_mulI (e_add (e_add (e_var 2) (e_ix (e_var 0) (e_int))) (e_div (e_ix (e_var 0) (e_int)) (e_int))) (e_var 3)) (a_nil))) (e_int))) (ss_one (s_ret (e_mod (e_intc B.int (a_cons (e_div (e_mod (e_intc B.int (a_cons (e_add (e_mulI (e_var 4) (e_int)) (e_var 2)) (a_nil))) (e_int)) (e_int)) (a_nil))) (e_var 1))))))))
theorem sc__law_cells : FnScope ["_law_script", "_law_peak_so", "_law_cells_here", "_law_k", "_law_great_so", "_law_at_so"] ["_law_script", "_law_peak_so"] (defScope st__law_cells) := ⟨rfl, rfl, rfl, by decide +kernel, rfl, by decide +kernel, by decide +kernel⟩
theorem ok__law_cells {f : Addr} {fd : FuncData} (F : FnP K "_law_cells" st__law_cells f fd) (hm : mg "_law_cells" = some (.ref f)) (B : Blt mg) : Cal P w K mg base "_law_cells" 1 2 f__law_cells :=
  have nd := sc__law_cells.nd
  cal_of (ps := ["_law_script", "_law_peak_so"]) F sc__law_cells rfl hm (fun _ _ _ _ _ _ us hl => match us, hl with | [_, _], _ => rfl) fun cdv A outer s H E hr =>
    ss_cons (s_set nd (e_or (e_list B.list (a_cons (e_sl (e_var 0) (o_none) (o_some (e_var 1))) (a_nil))) (e_one (e_lst (a_cons (e_int) (a_nil)))))) (ss_cons (s_for PassesOwn.never rfl (i_en B.enumerate (a_cons (e_sl (e_var 0) (o_some (e_var 1)) (o_some (e_int))) (a_nil))) (g_tup rfl (gs_cons (g_name nd) (gs_cons (g_name nd) (gs_nil)))) (ss_cons (s_set nd (e_mod (e_intc B.int (a_cons (e_var 3) (a_nil))) (e_var 1))) (ss_one (s_asg (e_add (e_ix (e_var 2) (e_var 5)) (e_mulI (e_var 4) (e_add (e_var 3) (e_int)))) (g_sub (e_var 2) (e_var 5)))))) (ss_one (s_ret (e_var 2))))
theorem sc__law_of : FnScope ["_law_tin", "_law_some"] ["_law_tin", "_law_some"] (defScope st__law_of) := ⟨rfl, rfl, rfl, by decide +kernel, rfl, by decide +kernel, by decide +kernel⟩
theorem ok__law_of {f : Addr} {fd : FuncData} (F : FnP K "_law_of" st__law_of f fd) (hm : mg "_law_of" = some (.ref f)) (B : Blt mg) (c__law_take : Cal P w K mg base "_law_take" 1 2 f__law_take) : Cal P w K mg base "_law_of" 2 2 f__law_of :=
  have nd := sc__law_of.nd
  cal_of (ps := ["_law_tin", "_law_some"]) F sc__law_of rfl hm (fun _ _ _ _ _ _ us hl => match us, hl with | [_, _], _ => rfl) fun cdv A outer s H E hr =>
    ss_one (s_ret (e_ix (e_var 1) (e_callC c__law_take (hr.mono (by decide)) (a_cons (e_var 0) (a_cons (e_len B.len (a_cons (e_var 1) (a_nil))) (a_nil))))))
theorem sc__law_same : FnScope ["_law_got", "_law_due", "_law_lot_so", "_law_mine", "_law_its"] ["_law_got", "_law_due"] (defScope st__law_same) := ⟨rfl, rfl, rfl, by decide +kernel, rfl, by decide +kernel, by decide +kernel⟩
theorem okr__law_same {f : Addr} {fd : FuncData} (F : FnP K "_law_same" st__law_same f fd) (hm : mg "_law_same" = some (.ref f)) (B : Blt mg) : ∀ n : Nat, Cal P w K mg base "_law_same" (n + 0) 2 (f__law_same n)
  | 0 => cal_bad F sc__law_same rfl hm (fun _ _ _ _ _ _ us hl => match us, hl with | [_, _], _ => rfl)
  | n + 1 => have c__law_same := okr__law_same F hm B n
    have nd := sc__law_same.nd
    cal_of (ps := ["_law_got", "_law_due"]) F sc__law_same rfl hm (fun _ _ _ _ _ _ us hl => match us, hl with | [_, _], _ => rfl) fun cdv A outer s H E hr =>
    ss_cons (s_if (t_val (e_isiL (by rfl) B.isinstance (e_var 1) (c_cons (by rfl) B.list (by decide +kernel) (c_cons (by rfl) B.tuple (by decide +kernel) (c_nil))) (by decide))) (ss_cons (s_if (PW.pt (w_or (t_ne hr.units (e_isi (by rfl) B.isinstance (e_var 0) (c_cons (by rfl) B.list (by decide +kernel) (c_nil))) (e_isi (by rfl) B.isinstance (e_var 1) (c_cons (by rfl) B.list (by decide +kernel) (c_nil)))) (w_or1 (t_ne hr.units (e_isi (by rfl) B.isinstance (e_var 0) (c_cons (by rfl) B.tuple (by decide +kernel) (c_nil))) (e_isi (by rfl) B.isinstance (e_var 1) (c_cons (by rfl) B.tuple (by decide +kernel) (c_nil))))))) (ss_one (s_ret (e_bl))) (ss_nil)) (ss_one (s_ret (e_and (e_eq hr.units (e_len B.len (a_cons (e_var 0) (a_nil))) (e_len B.len (a_cons (e_var 1) (a_nil)))) (e_one (e_all B.all (a_cons (e_lc (own := [("_law_mine", 3), ("_law_its", 4)]) rfl nd (i_zip B.zip (a_cons (e_var 0) (a_cons (e_var 1) (a_nil)))) (by exact blkOk_by (N := ["_law_got", "_law_due", "_law_lot_so", "_law_mine", "_law_its"]) (sc := defScope st__law_same) (by decide +kernel)) (fun _ _ _ _ _ => pg_tup rfl (pgs_cons (pg_name (i := 3) nd rfl (by first | exact Or.inl rfl | exact Or.inr rfl)) (pgs_cons (pg_name (i := 4) nd rfl (by first | exact Or.inl rfl | exact Or.inr rfl)) (pgs_nil)))) (fun _ _ _ _ _ => ts_nil) (fun _ _ _ _ _ => e_callC c__law_same (hr.mono (by omega)) (a_cons (e_var 3) (a_cons (e_var 4) (a_nil)))) (ct_two (by decide) (by decide))) (a_nil)))))))) (ss_nil)) (ss_cons (s_if (t_val (e_isi (by rfl) B.isinstance (e_var 1) (c_cons (by rfl) B.dict (by decide +kernel) (c_nil)))) (ss_cons (s_if (PW.pt (w_or (t_not (t_val (e_isi (by rfl) B.isinstance (e_var 0) (c_cons (by rfl) B.dict (by decide +kernel) (c_nil))))) (w_or1 (t_ne hr.units (e_sorted B.sorted (a_cons (e_var 0) (a_nil))) (e_sorted B.sorted (a_cons (e_var 1) (a_nil))))))) (ss_one (s_ret (e_bl))) (ss_nil)) (ss_one (s_ret (e_all B.all (a_cons (e_lc (own := [("_law_lot_so", 2)]) rfl nd (i_seq (e_var 1)) (by exact blkOk_by (N := ["_law_got", "_law_due", "_law_lot_so", "_law_mine", "_law_its"]) (sc := defScope st__law_same) (by decide +kernel)) (fun _ _ _ _ _ => pg_name (i := 2) nd rfl (by first | exact Or.inl rfl | exact Or.inr rfl)) (fun _ _ _ _ _ => ts_nil) (fun _ _ _ _ _ => e_callC c__law_same (hr.mono (by omega)) (a_cons (e_ix (e_var 0) (e_var 2)) (a_cons (e_ix (e_var 1) (e_var 2)) (a_nil)))) (ct_name (by decide))) (a_nil)))))) (ss_nil)) (ss_cons (s_if (PW.pt (w_or (t_isN (e_var 1)) (w_or1 (t_val (e_isiL (by rfl) B.isinstance (e_var 1) (c_cons (by rfl) B.bool (by decide +kernel) (c_cons (by rfl) B.str (by decide +kernel) (c_nil))) (by decide)))))) (ss_one (s_ret (e_and (e_eq hr.units (e_var 0) (e_var 1)) (e_and (e_eq hr.units (e_isi (by rfl) B.isinstance (e_var 0) (c_cons (by rfl) B.bool (by decide +kernel) (c_nil))) (e_isi (by rfl) B.isinstance (e_var 1) (c_cons (by rfl) B.bool (by decide +kernel) (c_nil)))) (e_one (e_eq hr.units (e_isN (e_var 0)) (e_isN (e_var 1)))))))) (ss_nil)) (ss_one (s_ret (e_and (e_isi (by rfl) B.isinstance (e_var 0) (c_cons (by rfl) B.int (by decide +kernel) (c_nil))) (e_and (e_not (e_isi (by rfl) B.isinstance (e_var 0) (c_cons (by rfl) B.bool (by decide +kernel) (c_nil)))) (e_one (e_eq hr.units (e_var 0) (e_var 1)))))))))
theorem ok__law_same {f : Addr} {fd : FuncData} (F : FnP K "_law_same" st__law_same f fd) (hm : mg "_law_same" = some (.ref f)) (B : Blt mg) : Cal P w K mg base "_law_same" 8 2 (f__law_same 8) := (okr__law_same F hm B 8).up (by decide)
theorem sc__law_kin : FnScope ["_law_tin", "_law_peak_so", "_law_more", "_law_low_so", "_law_high_so", "_law_plus_so"] ["_law_tin", "_law_peak_so", "_law_more"] (defScope st__law_kin) := ⟨rfl, rfl, rfl, by decide +kernel, rfl, by decide +kernel, by decide +kernel⟩
theorem ok__law_kin {f : Addr} {fd : FuncData} (F : FnP K "_law_kin" st__law_kin f fd) (hm : mg "_law_kin" = some (.ref f)) (B : Blt mg) (c__law_take : Cal P w K mg base "_law_take" 1 2 f__law_take) : Cal P w K mg base "_law_kin" 2 3 f__law_kin :=
  have nd := sc__law_kin.nd
  cal_of (ps := ["_law_tin", "_law_peak_so", "_law_more"]) F sc__law_kin rfl hm (fun _ _ _ _ _ _ us hl => match us, hl with | [_, _, _], _ => rfl) fun cdv A outer s H E hr =>
    ss_cons (s_set nd (e_add (e_int) (e_callC c__law_take (hr.mono (by decide)) (a_cons (e_var 0) (a_cons (e_var 1) (a_nil)))))) (ss_cons (s_set nd (e_add (e_var 3) (e_callC c__law_take (hr.mono (by decide)) (a_cons (e_var 0) (a_cons (e_sub (e_add (e_var 1) (e_int)) (e_var 3)) (a_nil)))))) (ss_cons (s_set nd (e_callC c__law_take (hr.mono (by decide)) (a_cons (e_var 0) (a_cons (e_add (e_var 2) (e_int)) (a_nil))))) (ss_one (s_ret (e_tup (a_cons (e_var 4) (a_cons (e_var 3) (a_cons (e_if (t_eq hr.units (e_var 4) (e_var 3)) (e_max B.max (a_cons (e_int) (a_cons (e_var 5) (a_nil)))) (e_var 5)) (a_nil)))))))))
theorem sc__law_rows : FnScope ["_law_kin_here", "_law_first", "_law_many_so", "_law_found", "_law_turn_so", "_law_later", "_law_spot", "_law_much"] ["_law_kin_here", "_law_first", "_law_many_so"] (defScope st__law_rows) := ⟨rfl, rfl, rfl, by decide +kernel, rfl, by decide +kernel, by decide +kernel⟩
theorem ok__law_rows {f : Addr} {fd : FuncData} (F : FnP K "_law_rows" st__law_rows f fd) (hm : mg "_law_rows" = some (.ref f)) (B : Blt mg) : Cal P w K mg base "_law_rows" 1 3 f__law_rows :=
  have nd := sc__law_rows.nd
  cal_of (ps := ["_law_kin_here", "_law_first", "_law_many_so"]) F sc__law_rows rfl hm (fun _ _ _ _ _ _ us hl => match us, hl with | [_, _, _], _ => rfl) fun cdv A outer s H E hr =>
    ss_cons (s_set nd (e_lst (a_cons (e_tup (a_cons (e_int) (a_cons (e_var 1) (a_nil)))) (a_nil)))) (ss_cons (s_for PassesOwn.never rfl (i_rng1 B.range (a_cons (e_var 2) (a_nil))) (g_name nd) (ss_cons (s_asg (e_ix (e_var 3) (e_neg (e_int))) (g_tup rfl (gs_cons (g_name nd) (gs_cons (g_name nd) (gs_nil))))) (ss_cons (s_set nd (e_add (e_div (e_mulI (e_ix (e_var 0) (e_int)) (e_var 7)) (e_ix (e_var 0) (e_int))) (e_ix (e_var 0) (e_int)))) (ss_one (s_expr (e_append (e_var 3) (a_cons (e_if (t_le (e_var 5) (e_var 6)) (e_tup (a_cons (e_int) (a_cons (e_var 5) (a_nil)))) (e_tup (a_cons (e_add (e_var 6) (e_var 7)) (a_cons (e_var 5) (a_nil))))) (a_nil)))))))) (ss_one (s_ret (e_var 3))))
theorem sc__law_ends : FnScope ["_law_kin_here", "_law_first", "_law_many_so", "_law_rows_so", "_law_k"] ["_law_kin_here", "_law_first", "_law_many_so"] (defScope st__law_ends) := ⟨rfl, rfl, rfl, by decide +kernel, rfl, by decide +kernel, by decide +kernel⟩
theorem ok__law_ends {f : Addr} {fd : FuncData} (F : FnP K "_law_ends" st__law_ends f fd) (hm : mg "_law_ends" = some (.ref f)) (B : Blt mg) (c__law_rows : Cal P w K mg base "_law_rows" 1 3 f__law_rows) : Cal P w K mg base "_law_ends" 2 3 f__law_ends :=
  have nd := sc__law_ends.nd
  cal_of (ps := ["_law_kin_here", "_law_first", "_law_many_so"]) F sc__law_ends rfl hm (fun _ _ _ _ _ _ us hl => match us, hl with | [_, _, _], _ => rfl) fun cdv A outer s H E hr =>
    ss_cons (s_set nd (e_callC c__law_rows (hr.mono (by decide)) (a_cons (e_var 0) (a_cons (e_var 1) (a_cons (e_var 2) (a_nil)))))) (ss_one (s_ret (e_lc (own := [("_law_k", 4)]) rfl nd (i_rng1 B.range (a_cons (e_var 2) (a_nil))) (by exact blkOk_by (N := ["_law_kin_here", "_law_first", "_law_many_so", "_law_rows_so", "_law_k"]) (sc := defScope st__law_ends) (by decide +kernel)) (fun _ _ _ _ _ => pg_name (i := 4) nd rfl (by first | exact Or.inl rfl | exact Or.inr rfl)) (fun _ _ _ _ _ => ts_nil) (fun _ _ _ _ _ => e_max B.max (a_cons (e_add (e_ix (e_ix (e_var 3) (e_var 4)) (e_int)) (e_ix (e_ix (e_var 3) (e_var 4)) (e_int))) (a_cons (e_add (e_ix (e_ix (e_var 3) (e_add (e_var 4) (e_int))) (e_int)) (e_ix (e_ix (e_var 3) (e_add (e_var 4) (e_int))) (e_int))) (a_nil)))) (ct_name (by decide)))))
theorem sc__law_gcd : FnScope ["_law_one_so", "_law_two_so"] ["_law_one_so", "_law_two_so"] (defScope st__law_gcd) := ⟨rfl, rfl, rfl, by decide +kernel, rfl, by decide +kernel, by decide +kernel⟩
theorem ok__law_gcd {f : Addr} {fd : FuncData} (F : FnP K "_law_gcd" st__law_gcd f fd) (hm : mg "_law_gcd" = some (.ref f)) (B : Blt mg) : Cal P w K mg base "_law_gcd" 1 2 f__law_gcd :=
  have nd := sc__law_gcd.nd
  cal_of (ps := ["_law_one_so", "_law_two_so"]) F sc__law_gcd rfl hm (fun _ _ _ _ _ _ us hl => match us, hl with | [_, _], _ => rfl) fun cdv A outer s H E hr =>
    ss_cons (s_while PassesOwn.never (t_gt (e_var 1) (e_int)) (ss_one (s_par rfl nd (a_cons (e_var 1) (a_cons (e_mod (e_intc B.int (a_cons (e_var 0) (a_nil))) (e_var 1)) (a_nil)))))) (ss_one (s_ret (e_var 0)))
theorem sc__law_part : FnScope ["_law_high_so", "_law_low_so", "_law_part_so"] ["_law_high_so", "_law_low_so"] (defScope st__law_part) := ⟨rfl, rfl, rfl, by decide +kernel, rfl, by decide +kernel, by decide +kernel⟩
theorem ok__law_part {f : Addr} {fd : FuncData} (F : FnP K "_law_part" st__law_part f fd) (hm : mg "_law_part" = some (.ref f)) (B : Blt mg) (c__law_gcd : Cal P w K mg base "_law_gcd" 1 2 f__law_gcd) : Cal P w K mg base "_law_part" 2 2 f__law_part :=
  have nd := sc__law_part.nd
  cal_of (ps := ["_law_high_so", "_law_low_so"]) F sc__law_part rfl hm (fun _ _ _ _ _ _ us hl => match us, hl with | [_, _], _ => rfl) fun cdv A outer s H E hr =>
    ss_cons (s_set nd (e_callC c__law_gcd (hr.mono (by decide)) (a_cons (e_var 0) (a_cons (e_var 1) (a_nil))))) (ss_one (s_ret (e_tup (a_cons (e_div (e_var 0) (e_var 2)) (a_cons (e_div (e_var 1) (e_var 2)) (a_nil))))))
theorem sc__law_parts : FnScope ["_law_kin_here", "_law_first", "_law_many_so", "_law_rows_so", "_law_ends_so", "_law_k"] ["_law_kin_here", "_law_first", "_law_many_so"] (defScope st__law_parts) := ⟨rfl, rfl, rfl, by decide +kernel, rfl, by decide +kernel, by decide +kernel⟩
theorem ok__law_parts {f : Addr} {fd : FuncData} (F : FnP K "_law_parts" st__law_parts f fd) (hm : mg "_law_parts" = some (.ref f)) (B : Blt mg) (c__law_rows : Cal P w K mg base "_law_rows" 1 3 f__law_rows) (c__law_ends : Cal P w K mg base "_law_ends" 2 3 (gL needsF)) (c__law_part : Cal P w K mg base "_law_part" 2 2 f__law_part) : Cal P w K mg base "_law_parts" 3 3 f__law_parts :=
  have nd := sc__law_parts.nd
  cal_of (ps := ["_law_kin_here", "_law_first", "_law_many_so"]) F sc__law_parts rfl hm (fun _ _ _ _ _ _ us hl => match us, hl with | [_, _, _], _ => rfl) fun cdv A outer s H E hr =>
    ss_cons (s_asg (e_tup (a_cons (e_callC c__law_rows (hr.mono (by decide)) (a_cons (e_var 0) (a_cons (e_var 1) (a_cons (e_var 2) (a_nil))))) (a_cons (e_callC c__law_ends (hr.mono (by decide)) (a_cons (e_var 0) (a_cons (e_var 1) (a_cons (e_var 2) (a_nil))))) (a_nil)))) (g_tup rfl (gs_cons (g_name nd) (gs_cons (g_name nd) (gs_nil))))) (ss_one (s_ret (e_lc (own := [("_law_k", 5)]) rfl nd (i_rng1 B.range (a_cons (e_var 2) (a_nil))) (by exact blkOk_by (N := ["_law_kin_here", "_law_first", "_law_many_so", "_law_rows_so", "_law_ends_so", "_law_k"]) (sc := defScope st__law_parts) (by decide +kernel)) (fun _ _ _ _ _ => pg_name (i := 5) nd rfl (by first | exact Or.inl rfl | exact Or.inr rfl)) (fun _ _ _ _ _ => ts_nil) (fun _ _ _ _ _ => e_callC c__law_part (hr.mono (by decide)) (a_cons (e_ix (e_var 4) (e_var 5)) (a_cons (e_ix (e_ix (e_var 3) (e_add (e_var 5) (e_int))) (e_int)) (a_nil)))) (ct_name (by decide)))))
theorem sc__law_case_right : FnScope ["_law_kin_here", "_law_first", "_law_many_so", "_law_got", "_law_due", "_law_line_so", "_law_told", "_law_ends_so", "_law_rows_so", "_law_k", "_law_own"] ["_law_kin_here", "_law_first", "_law_many_so"] (defScope st__law_case_right) := ⟨rfl, rfl, rfl, by decide +kernel, rfl, by decide +kernel, by decide +kernel⟩
theorem ok__law_case_right {f : Addr} {fd : FuncData} (F : FnP K "_law_case_right" st__law_case_right f fd) (hm : mg "_law_case_right" = some (.ref f)) (B : Blt mg) (c__law_same : Cal P w K mg base "_law_same" 8 2 (gA sameF)) (c__law_ends : Cal P w K mg base "_law_ends" 2 3 (gL needsF)) (c__law_rows : Cal P w K mg base "_law_rows" 1 3 f__law_rows) (c_cells_needed : Cal P w K mg base "cells_needed" 6 3 (gV cellsF)) (c_mark_of : Cal P w K mg base "mark_of" 6 3 (gV markF)) (c_shares : Cal P w K mg base "shares" 5 3 (gV sharesF)) (c_backs_read : Cal P w K mg base "backs_read" 5 3 (gV backsF)) (c__law_parts : Cal P w K mg base "_law_parts" 3 3 (gL partsF)) (c_is_read_by : Cal P w K mg base "is_read_by" 9 2 (gV readF)) (c_sizes_read : Cal P w K mg base "sizes_read" 1 1 (gV sizesRF)) (c_growths_to_part : Cal P w K mg base "growths_to_part" 6 3 (gV partF)) : Cal P w K mg base "_law_case_right" 10 3 f__law_case_right :=
  have nd := sc__law_case_right.nd
  cal_of (ps := ["_law_kin_here", "_law_first", "_law_many_so"]) F sc__law_case_right rfl hm (fun _ _ _ _ _ _ us hl => match us, hl with | [_, _, _], _ => rfl) fun cdv A outer s H E hr =>
    ss_cons (s_asg (e_tup (a_cons (e_callC c__law_ends (hr.mono (by decide)) (a_cons (e_var 0) (a_cons (e_var 1) (a_cons (e_var 2) (a_nil))))) (a_cons (e_callC c__law_rows (hr.mono (by decide)) (a_cons (e_var 0) (a_cons (e_var 1) (a_cons (e_var 2) (a_nil))))) (a_nil)))) (g_tup rfl (gs_cons (g_name nd) (gs_cons (g_name nd) (gs_nil))))) (ss_cons (s_set nd (e_lst (a_cons (e_callC c_cells_needed (hr.mono (by decide)) (a_cons (e_var 0) (a_cons (e_var 1) (a_cons (e_var 2) (a_nil))))) (a_cons (e_callC c_mark_of (hr.mono (by decide)) (a_cons (e_var 0) (a_cons (e_var 1) (a_cons (e_var 2) (a_nil))))) (a_cons (e_callC c_shares (hr.mono (by decide)) (a_cons (e_var 0) (a_cons (e_var 1) (a_cons (e_int) (a_nil))))) (a_cons (e_callC c_backs_read (hr.mono (by decide)) (a_cons (e_var 0) (a_cons (e_var 1) (a_cons (e_var 2) (a_nil))))) (a_nil))))))) (ss_cons (s_set nd (e_lst (a_cons (e_ix (e_var 7) (e_neg (e_int))) (a_cons (e_max B.max (a_cons (e_var 7) (a_nil))) (a_cons (e_tuple B.tuple (a_cons (e_callC c__law_parts (hr.mono (by decide)) (a_cons (e_var 0) (a_cons (e_var 1) (a_cons (e_int) (a_nil))))) (a_nil))) (a_cons (e_tuple B.tuple (a_cons (e_lc (own := [("_law_own", 10)]) rfl nd (i_seq (e_sl (e_var 8) (o_some (e_int)) (o_none))) (by exact blkOk_by (N := ["_law_kin_here", "_law_first", "_law_many_so", "_law_got", "_law_due", "_law_line_so", "_law_told", "_law_ends_so", "_law_rows_so", "_law_k", "_law_own"]) (sc := defScope st__law_case_right) (by decide +kernel)) (fun _ _ _ _ _ => pg_name (i := 10) nd rfl (by first | exact Or.inl rfl | exact Or.inr rfl)) (fun _ _ _ _ _ => ts_nil) (fun _ _ _ _ _ => e_eq hr.units (e_ix (e_var 10) (e_int)) (e_int)) (ct_name (by decide))) (a_nil))) (a_nil))))))) (ss_cons (s_set nd (e_tuple B.tuple (a_cons (e_lc (own := [("_law_own", 10)]) rfl nd (i_seq (e_sl (e_var 8) (o_some (e_int)) (o_some (e_int)))) (by exact blkOk_by (N := ["_law_kin_here", "_law_first", "_law_many_so", "_law_got", "_law_due", "_law_line_so", "_law_told", "_law_ends_so", "_law_rows_so", "_law_k", "_law_own"]) (sc := defScope st__law_case_right) (by decide +kernel)) (fun _ _ _ _ _ => pg_name (i := 10) nd rfl (by first | exact Or.inl rfl | exact Or.inr rfl)) (fun _ _ _ _ _ => ts_nil) (fun _ _ _ _ _ => e_ix (e_var 10) (e_int)) (ct_name (by decide))) (a_nil)))) (ss_cons (s_setLc (own := [("_law_k", 9)]) rfl nd (i_rng1 B.range (a_cons (e_int) (a_nil))) (by exact blkOk_by (N := ["_law_kin_here", "_law_first", "_law_many_so", "_law_got", "_law_due", "_law_line_so", "_law_told", "_law_ends_so", "_law_rows_so", "_law_k", "_law_own"]) (sc := defScope st__law_case_right) (by decide +kernel)) (fun _ _ _ _ _ => pg_name (i := 9) nd rfl (by first | exact Or.inl rfl | exact Or.inr rfl)) (fun _ _ _ _ _ => ts_nil) (fun _ _ _ _ _ => e_if (t_eq hr.units (e_ix (e_var 5) (e_var 9)) (e_int)) (e_non) (e_ix (e_ix (e_var 8) (e_var 9)) (e_int))) (ct_name (by decide))) (ss_one (s_ret (e_callC c__law_same (hr.mono (by decide)) (a_cons (e_add (e_var 3) (e_lst (a_cons (e_callC c_is_read_by (hr.mono (by decide)) (a_cons (e_var 0) (a_cons (e_var 5) (a_nil)))) (a_cons (e_callC c_sizes_read (hr.mono (by decide)) (a_cons (e_var 5) (a_nil))) (a_cons (e_callC c_growths_to_part (hr.mono (by decide)) (a_cons (e_var 0) (a_cons (e_var 0) (a_cons (e_var 1) (a_nil))))) (a_nil)))))) (a_cons (e_add (e_var 4) (e_lst (a_cons (e_bl) (a_cons (e_tuple B.tuple (a_cons (e_var 6) (a_nil))) (a_cons (e_non) (a_nil)))))) (a_nil))))))))))
theorem sc__law_by_hand_right : FnScope ["_law_far", "_law_kin_here", "_law_first", "_law_got", "_law_due"] [] (defScope st__law_by_hand_right) := ⟨rfl, rfl, rfl, by decide +kernel, rfl, by decide +kernel, by decide +kernel⟩
theorem ok__law_by_hand_right {f : Addr} {fd : FuncData} (F : FnP K "_law_by_hand_right" st__law_by_hand_right f fd) (hm : mg "_law_by_hand_right" = some (.ref f)) (B : Blt mg) (c__law_same : Cal P w K mg base "_law_same" 8 2 (gA sameF)) (c_share : Cal P w K mg base "share" 6 3 f_share) (c_greatest_share : Cal P w K mg base "greatest_share" 6 3 f_greatest_share) (c__law_case_right : Cal P w K mg base "_law_case_right" 10 3 (gV caseF)) : Cal P w K mg base "_law_by_hand_right" 11 0 f__law_by_hand_right :=
  have nd := sc__law_by_hand_right.nd
  cal_of (ps := []) F sc__law_by_hand_right rfl hm (fun _ _ _ _ _ _ us hl => match us, hl with | [], _ => rfl) fun cdv A outer s H E hr =>
    ss_cons (s_set nd (e_pow (e_int) (e_int))) (ss_cons (s_for PassesOwn.never rfl (i_seq (e_tup (a_cons (e_tup (a_cons (e_int) (a_cons (e_int) (a_cons (e_int) (a_nil))))) (a_cons (e_tup (a_cons (e_int) (a_cons (e_int) (a_cons (e_var 0) (a_nil))))) (a_cons (e_tup (a_cons (e_int) (a_cons (e_int) (a_cons (e_int) (a_nil))))) (a_cons (e_tup (a_cons (e_int) (a_cons (e_int) (a_cons (e_int) (a_nil))))) (a_cons (e_tup (a_cons (e_int) (a_cons (e_int) (a_cons (e_var 0) (a_nil))))) (a_cons (e_tup (a_cons (e_int) (a_cons (e_int) (a_cons (e_int) (a_nil))))) (a_cons (e_tup (a_cons (e_int) (a_cons (e_int) (a_cons (e_int) (a_nil))))) (a_nil)))))))))) (g_name nd) (ss_one (s_if (t_not (t_truth (e_callC c__law_case_right (hr.mono (by decide)) (a_cons (e_var 1) (a_cons (e_var 0) (a_cons (e_int) (a_nil))))))) (ss_one (s_ret (e_bl))) (ss_nil)))) (ss_cons (s_set nd (e_pow (e_int) (e_int))) (ss_cons (s_set nd (e_lst (a_cons (e_callC c_share (hr.mono (by decide)) (a_cons (e_tup (a_cons (e_int) (a_cons (e_int) (a_cons (e_int) (a_nil))))) (a_cons (e_var 2) (a_cons (e_int) (a_nil))))) (a_cons (e_callC c_greatest_share (hr.mono (by decide)) (a_cons (e_tup (a_cons (e_int) (a_cons (e_int) (a_cons (e_int) (a_nil))))) (a_cons (e_var 2) (a_cons (e_int) (a_nil))))) (a_cons (e_callC c_share (hr.mono (by decide)) (a_cons (e_tup (a_cons (e_int) (a_cons (e_int) (a_cons (e_int) (a_nil))))) (a_cons (e_var 2) (a_cons (e_int) (a_nil))))) (a_cons (e_callC c_share (hr.mono (by decide)) (a_cons (e_tup (a_cons (e_int) (a_cons (e_int) (a_cons (e_int) (a_nil))))) (a_cons (e_var 2) (a_cons (e_int) (a_nil))))) (a_cons (e_callC c_share (hr.mono (by decide)) (a_cons (e_tup (a_cons (e_int) (a_cons (e_int) (a_cons (e_int) (a_nil))))) (a_cons (e_var 2) (a_cons (e_int) (a_nil))))) (a_nil)))))))) (ss_cons (s_set nd (e_lst (a_cons (e_tup (a_cons (e_int) (a_cons (e_int) (a_nil)))) (a_cons (e_tup (a_cons (e_int) (a_cons (e_tup (a_cons (e_int) (a_cons (e_int) (a_nil)))) (a_nil)))) (a_cons (e_tup (a_cons (e_int) (a_cons (e_int) (a_nil)))) (a_cons (e_tup (a_cons (e_int) (a_cons (e_int) (a_nil)))) (a_cons (e_tup (a_cons (e_sub (e_pow (e_int) (e_int)) (e_int)) (a_cons (e_pow (e_int) (e_int)) (a_nil)))) (a_nil)))))))) (ss_one (s_ret (e_callC c__law_same (hr.mono (by decide)) (a_cons (e_var 3) (a_cons (e_var 4) (a_nil))))))))))
theorem sc__law_right : FnScope ["_law_tin", "_law_turn", "_law_kin_here", "_law_first"] ["_law_tin"] (defScope st__law_right) := ⟨rfl, rfl, rfl, by decide +kernel, rfl, by decide +kernel, by decide +kernel⟩
theorem ok__law_right {f : Addr} {fd : FuncData} (F : FnP K "_law_right" st__law_right f fd) (hm : mg "_law_right" = some (.ref f)) (B : Blt mg) (c__law_kin : Cal P w K mg base "_law_kin" 2 3 f__law_kin) (c__law_of : Cal P w K mg base "_law_of" 2 2 f__law_of) (c__law_take : Cal P w K mg base "_law_take" 1 2 f__law_take) (c__law_case_right : Cal P w K mg base "_law_case_right" 10 3 (gV caseF)) : Cal P w K mg base "_law_right" 11 1 f__law_right :=
  have nd := sc__law_right.nd
  cal_of (ps := ["_law_tin"]) F sc__law_right rfl hm (fun _ _ _ _ _ _ us hl => match us, hl with | [_], _ => rfl) fun cdv A outer s H E hr =>
    ss_cons (s_for PassesOwn.never rfl (i_rng1 B.range (a_cons (e_int) (a_nil))) (g_name nd) (ss_cons (s_set nd (e_callC c__law_kin (hr.mono (by decide)) (a_cons (e_var 0) (a_cons (e_int) (a_cons (e_callC c__law_of (hr.mono (by decide)) (a_cons (e_var 0) (a_cons (e_lst (a_cons (e_int) (a_cons (e_int) (a_cons (e_pow (e_int) (e_int)) (a_nil))))) (a_nil)))) (a_nil)))))) (ss_cons (s_set nd (e_add (e_pow (e_int) (e_int)) (e_callC c__law_take (hr.mono (by decide)) (a_cons (e_var 0) (a_cons (e_pow (e_int) (e_int)) (a_nil)))))) (ss_one (s_if (t_not (t_truth (e_callC c__law_case_right (hr.mono (by decide)) (a_cons (e_var 2) (a_cons (e_var 3) (a_cons (e_int) (a_nil))))))) (ss_one (s_ret (e_bl))) (ss_nil)))))) (ss_one (s_ret (e_bl)))
theorem sc_law : FnScope ["_law_script", "_law_cells_here", "_law_k", "_law_urn"] ["_law_script"] (defScope st_law) := ⟨rfl, rfl, rfl, by decide +kernel, rfl, by decide +kernel, by decide +kernel⟩
theorem ok_law {f : Addr} {fd : FuncData} (F : FnP K "law" st_law f fd) (B : Blt mg) (c__law_cells : Cal P w K mg base "_law_cells" 1 2 f__law_cells) (c__law_by_hand_right : Cal P w K mg base "_law_by_hand_right" 11 0 (gV handF)) (c__law_box : Cal P w K mg base "_law_box" 1 2 f__law_box) (c__law_right : Cal P w K mg base "_law_right" 11 1 f__law_right) : FnOk P w K mg base CX0 12 f fd ["_law_script"] (sp0 K 1 f_law) :=
  have nd := sc_law.nd
  fn0 F sc_law rfl fun cdv A outer s H E hr =>
    ss_cons (s_if (t_not (t_truth (e_callC0 c__law_by_hand_right (hr.mono (by decide))))) (ss_one (s_ret (e_bl))) (ss_nil)) (ss_cons (s_set nd (e_callC c__law_cells (hr.mono (by decide)) (a_cons (e_var 0) (a_cons (e_int) (a_nil))))) (ss_cons (s_for PassesOwn.never rfl (i_rng1 B.range (a_cons (e_len B.len (a_cons (e_var 1) (a_nil))) (a_nil))) (g_name nd) (ss_cons (s_set nd (e_callC c__law_box (hr.mono (by decide)) (a_cons (e_var 1) (a_cons (e_var 2) (a_nil))))) (ss_one (s_if (PW.pt (w_or (t_not (t_truth (e_callC c__law_right (hr.mono (by decide)) (a_cons (e_var 3) (a_nil))))) (w_or1 (t_not (t_truth (e_callC c__law_right (hr.mono (by decide)) (a_cons (e_var 3) (a_nil)))))))) (ss_one (s_ret (e_bl))) (ss_nil))))) (ss_one (s_ret (e_bl)))))
end GB
set_option Elab.async false
set_option linter.all false
set_option maxRecDepth 100000
set_option maxHeartbeats 4000000
namespace GB
open PySem PySem.Spec PyProof.Rows L2
end GB
set_option Elab.async false
set_option linter.all false
set_option maxRecDepth 100000
set_option maxHeartbeats 4000000
namespace GB
open PySem PySem.Spec PyProof.Rows L2
def dd_is_number : He.DefD := ⟨("is_number", none), "is_number", "is_number", defArgs st_is_number, defBody st_is_number, defScope st_is_number, [], []⟩
def dd_tupled : He.DefD := ⟨("tupled", none), "tupled", "tupled", defArgs st_tupled, defBody st_tupled, defScope st_tupled, [], []⟩
def dd_fraction : He.DefD := ⟨("fraction", none), "fraction", "fraction", defArgs st_fraction, defBody st_fraction, defScope st_fraction, [], []⟩
def dd_next_size : He.DefD := ⟨("next_size", none), "next_size", "next_size", defArgs st_next_size, defBody st_next_size, defScope st_next_size, [], []⟩
def dd_is_start : He.DefD := ⟨("is_start", none), "is_start", "is_start", defArgs st_is_start, defBody st_is_start, defScope st_is_start, [], []⟩
def dd_check_start : He.DefD := ⟨("check_start", none), "check_start", "check_start", defArgs st_check_start, defBody st_check_start, defScope st_check_start, [], []⟩
def dd_blocks_along : He.DefD := ⟨("blocks_along", none), "blocks_along", "blocks_along", defArgs st_blocks_along, defBody st_blocks_along, defScope st_blocks_along, [], []⟩
def dd_needs : He.DefD := ⟨("needs", none), "needs", "needs", defArgs st_needs, defBody st_needs, defScope st_needs, [], []⟩
def dd_cells_needed : He.DefD := ⟨("cells_needed", none), "cells_needed", "cells_needed", defArgs st_cells_needed, defBody st_cells_needed, defScope st_cells_needed, [], []⟩
def dd_mark_of : He.DefD := ⟨("mark_of", none), "mark_of", "mark_of", defArgs st_mark_of, defBody st_mark_of, defScope st_mark_of, [], []⟩
def dd_shares : He.DefD := ⟨("shares", none), "shares", "shares", defArgs st_shares, defBody st_shares, defScope st_shares, [], []⟩
def dd_share : He.DefD := ⟨("share", none), "share", "share", defArgs st_share, defBody st_share, defScope st_share, [], []⟩
def dd_is_less : He.DefD := ⟨("is_less", none), "is_less", "is_less", defArgs st_is_less, defBody st_is_less, defScope st_is_less, [], []⟩
def dd_greatest_share : He.DefD := ⟨("greatest_share", none), "greatest_share", "greatest_share", defArgs st_greatest_share, defBody st_greatest_share, defScope st_greatest_share, [], []⟩
def dd_is_read_by : He.DefD := ⟨("is_read_by", none), "is_read_by", "is_read_by", defArgs st_is_read_by, defBody st_is_read_by, defScope st_is_read_by, [], []⟩
def dd_sizes_read : He.DefD := ⟨("sizes_read", none), "sizes_read", "sizes_read", defArgs st_sizes_read, defBody st_sizes_read, defScope st_sizes_read, [], []⟩
def dd_backs_read : He.DefD := ⟨("backs_read", none), "backs_read", "backs_read", defArgs st_backs_read, defBody st_backs_read, defScope st_backs_read, [], []⟩
def dd_growths_to_part : He.DefD := ⟨("growths_to_part", none), "growths_to_part", "growths_to_part", defArgs st_growths_to_part, defBody st_growths_to_part, defScope st_growths_to_part, [], []⟩
def dd__law_box : He.DefD := ⟨("_law_box", none), "_law_box", "_law_box", defArgs st__law_box, defBody st__law_box, defScope st__law_box, [], []⟩
def dd__law_take : He.DefD := ⟨("_law_take", none), "_law_take", "_law_take", defArgs st__law_take, defBody st__law_take, defScope st__law_take, [], []⟩
def dd__law_cells : He.DefD := ⟨("_law_cells", none), "_law_cells", "_law_cells", defArgs st__law_cells, defBody st__law_cells, defScope st__law_cells, [], []⟩
def dd__law_of : He.DefD := ⟨("_law_of", none), "_law_of", "_law_of", defArgs st__law_of, defBody st__law_of, defScope st__law_of, [], []⟩
def dd__law_same : He.DefD := ⟨("_law_same", none), "_law_same", "_law_same", defArgs st__law_same, defBody st__law_same, defScope st__law_same, [], []⟩
def dd__law_kin : He.DefD := ⟨("_law_kin", none), "_law_kin", "_law_kin", defArgs st__law_kin, defBody st__law_kin, defScope st__law_kin, [], []⟩
def dd__law_rows : He.DefD := ⟨("_law_rows", none), "_law_rows", "_law_rows", defArgs st__law_rows, defBody st__law_rows, defScope st__law_rows, [], []⟩
def dd__law_ends : He.DefD := ⟨("_law_ends", none), "_law_ends", "_law_ends", defArgs st__law_ends, defBody st__law_ends, defScope st__law_ends, [], []⟩
def dd__law_gcd : He.DefD := ⟨("_law_gcd", none), "_law_gcd", "_law_gcd", defArgs st__law_gcd, defBody st__law_gcd, defScope st__law_gcd, [], []⟩
def dd__law_part : He.DefD := ⟨("_law_part", none), "_law_part", "_law_part", defArgs st__law_part, defBody st__law_part, defScope st__law_part, [], []⟩
def dd__law_parts : He.DefD := ⟨("_law_parts", none), "_law_parts", "_law_parts", defArgs st__law_parts, defBody st__law_parts, defScope st__law_parts, [], []⟩
def dd__law_case_right : He.DefD := ⟨("_law_case_right", none), "_law_case_right", "_law_case_right", defArgs st__law_case_right, defBody st__law_case_right, defScope st__law_case_right, [], []⟩
def dd__law_by_hand_right : He.DefD := ⟨("_law_by_hand_right", none), "_law_by_hand_right", "_law_by_hand_right", defArgs st__law_by_hand_right, defBody st__law_by_hand_right, defScope st__law_by_hand_right, [], []⟩
def dd__law_right : He.DefD := ⟨("_law_right", none), "_law_right", "_law_right", defArgs st__law_right, defBody st__law_right, defScope st__law_right, [], []⟩
def dd_law : He.DefD := ⟨("law", none), "law", "law", defArgs st_law, defBody st_law, defScope st_law, [], []⟩
def fnL : List He.DefD := [dd_is_number, dd_tupled, dd_fraction, dd_next_size, dd_is_start, dd_check_start, dd_blocks_along, dd_needs, dd_cells_needed, dd_mark_of, dd_shares, dd_share, dd_is_less, dd_greatest_share, dd_is_read_by, dd_sizes_read, dd_backs_read, dd_growths_to_part, dd__law_box, dd__law_take, dd__law_cells, dd__law_of, dd__law_same, dd__law_kin, dd__law_rows, dd__law_ends, dd__law_gcd, dd__law_part, dd__law_parts, dd__law_case_right, dd__law_by_hand_right, dd__law_right, dd_law]
def faL : List He.Fa := [.glo "is_number", .glo "tupled", .glo "fraction", .glo "next_size", .glo "is_start", .glo "check_start", .glo "blocks_along", .glo "needs", .glo "cells_needed", .glo "mark_of", .glo "shares", .glo "share", .glo "is_less", .glo "greatest_share", .glo "is_read_by", .glo "sizes_read", .glo "backs_read", .glo "growths_to_part", .glo "_law_box", .glo "_law_take", .glo "_law_cells", .glo "_law_of", .glo "_law_same", .glo "_law_kin", .glo "_law_rows", .glo "_law_ends", .glo "_law_gcd", .glo "_law_part", .glo "_law_parts", .glo "_law_case_right"] ++ ([.glo "_law_by_hand_right", .glo "_law_right", .glo "law", .free "abs", .free "all", .free "any", .free "bool", .free "dict", .free "enumerate", .free "int", .free "isinstance", .free "len", .free "list", .free "max", .free "min", .free "range", .free "set", .free "sorted", .free "str", .free "sum", .free "tuple", .free "zip", .free "ValueError", .free "super", .int "MOST" 60] : List He.Fa)
def loose : List PySem.Str := (["is_number", "tupled", "fraction", "NoStart", "next_size", "is_start", "check_start", "blocks_along", "needs", "cells_needed", "mark_of", "shares", "share", "is_less", "greatest_share", "MOST", "is_read_by", "sizes_read", "backs_read", "growths_to_part", "_law_box", "_law_take", "_law_cells", "_law_of", "_law_same", "_law_kin", "_law_rows", "_law_ends", "_law_gcd", "_law_part"] : List PySem.Str) ++ (["_law_parts", "_law_case_right", "_law_by_hand_right", "_law_right"] : List PySem.Str)
abbrev Rw : PySem.W.OpenRow := PySem.W.OpenLaw.row PySem.Challenge.rw_growback_k94_great_starts
abbrev hk : PySem.W.Hook := He.hookD 4 faL fnL
def ob (s : PySem.W.SharedT) : He.AlD := He.obsDG 4 faL fnL (HandSHeadRun.getT s)
theorem ob_eq (s : PySem.W.SharedT) : ob s = hk.obs s.abs := He.obsDG_eq (HandSHeadRun.getT_eq s)
theorem run (w : World) : HandSHeadRun.RunEq Rw (PySem.W.view Rw.prog [40]) hk ob 6000 loose w := by
  intro os
  kernel_rfl
theorem facts {P : Program} {w : World} {K : PySem.W.Frag} {h : Heap} {mg : Str → Option Value} {f : Addr} (X : K.In h) (G : h.Ns mainGlobals mg) (hfa : mg ("law" : Str) = some (.ref f)) (c : He.SaysD faL fnL K) :
    ∃ fd : FuncData, (∀ (s : Shared) (v : Value), BindsTo s fd ⟨[v], []⟩ [("_law_script", v)]) ∧ ∀ base : Heap, K.In base → base.Ns mainGlobals mg → FnOk P w K mg base CX0 12 f fd ["_law_script"] (sp0 K 1 f_law) := by
  obtain ⟨fd_is_number, F_is_number⟩ := c.def_ 0 (d := dd_is_number) rfl
  obtain ⟨fd_tupled, F_tupled⟩ := c.def_ 1 (d := dd_tupled) rfl
  obtain ⟨fd_fraction, F_fraction⟩ := c.def_ 2 (d := dd_fraction) rfl
  obtain ⟨fd_next_size, F_next_size⟩ := c.def_ 3 (d := dd_next_size) rfl
  obtain ⟨fd_is_start, F_is_start⟩ := c.def_ 4 (d := dd_is_start) rfl
  obtain ⟨fd_check_start, F_check_start⟩ := c.def_ 5 (d := dd_check_start) rfl
  obtain ⟨fd_blocks_along, F_blocks_along⟩ := c.def_ 6 (d := dd_blocks_along) rfl
  obtain ⟨fd_needs, F_needs⟩ := c.def_ 7 (d := dd_needs) rfl
  obtain ⟨fd_cells_needed, F_cells_needed⟩ := c.def_ 8 (d := dd_cells_needed) rfl
  obtain ⟨fd_mark_of, F_mark_of⟩ := c.def_ 9 (d := dd_mark_of) rfl
  obtain ⟨fd_shares, F_shares⟩ := c.def_ 10 (d := dd_shares) rfl
  obtain ⟨fd_share, F_share⟩ := c.def_ 11 (d := dd_share) rfl
  obtain ⟨fd_is_less, F_is_less⟩ := c.def_ 12 (d := dd_is_less) rfl
  obtain ⟨fd_greatest_share, F_greatest_share⟩ := c.def_ 13 (d := dd_greatest_share) rfl
  obtain ⟨fd_is_read_by, F_is_read_by⟩ := c.def_ 14 (d := dd_is_read_by) rfl
  obtain ⟨fd_sizes_read, F_sizes_read⟩ := c.def_ 15 (d := dd_sizes_read) rfl
  obtain ⟨fd_backs_read, F_backs_read⟩ := c.def_ 16 (d := dd_backs_read) rfl
  obtain ⟨fd_growths_to_part, F_growths_to_part⟩ := c.def_ 17 (d := dd_growths_to_part) rfl
  obtain ⟨fd__law_box, F__law_box⟩ := c.def_ 18 (d := dd__law_box) rfl
  obtain ⟨fd__law_take, F__law_take⟩ := c.def_ 19 (d := dd__law_take) rfl
  obtain ⟨fd__law_cells, F__law_cells⟩ := c.def_ 20 (d := dd__law_cells) rfl
  obtain ⟨fd__law_of, F__law_of⟩ := c.def_ 21 (d := dd__law_of) rfl
  obtain ⟨fd__law_same, F__law_same⟩ := c.def_ 22 (d := dd__law_same) rfl
  obtain ⟨fd__law_kin, F__law_kin⟩ := c.def_ 23 (d := dd__law_kin) rfl
  obtain ⟨fd__law_rows, F__law_rows⟩ := c.def_ 24 (d := dd__law_rows) rfl
  obtain ⟨fd__law_ends, F__law_ends⟩ := c.def_ 25 (d := dd__law_ends) rfl
  obtain ⟨fd__law_gcd, F__law_gcd⟩ := c.def_ 26 (d := dd__law_gcd) rfl
  obtain ⟨fd__law_part, F__law_part⟩ := c.def_ 27 (d := dd__law_part) rfl
  obtain ⟨fd__law_parts, F__law_parts⟩ := c.def_ 28 (d := dd__law_parts) rfl
  obtain ⟨fd__law_case_right, F__law_case_right⟩ := c.def_ 29 (d := dd__law_case_right) rfl
  obtain ⟨fd__law_by_hand_right, F__law_by_hand_right⟩ := c.def_ 30 (d := dd__law_by_hand_right) rfl
  obtain ⟨fd__law_right, F__law_right⟩ := c.def_ 31 (d := dd__law_right) rfl
  obtain ⟨fd_law, F_law⟩ := c.def_ 32 (d := dd_law) rfl
  have m_is_number := He.glo_ok X G (c.fact 0 (f := .glo "is_number") rfl)
  have m_tupled := He.glo_ok X G (c.fact 1 (f := .glo "tupled") rfl)
  have m_fraction := He.glo_ok X G (c.fact 2 (f := .glo "fraction") rfl)
  have m_next_size := He.glo_ok X G (c.fact 3 (f := .glo "next_size") rfl)
  have m_is_start := He.glo_ok X G (c.fact 4 (f := .glo "is_start") rfl)
  have m_check_start := He.glo_ok X G (c.fact 5 (f := .glo "check_start") rfl)
  have m_blocks_along := He.glo_ok X G (c.fact 6 (f := .glo "blocks_along") rfl)
  have m_needs := He.glo_ok X G (c.fact 7 (f := .glo "needs") rfl)
  have m_cells_needed := He.glo_ok X G (c.fact 8 (f := .glo "cells_needed") rfl)
  have m_mark_of := He.glo_ok X G (c.fact 9 (f := .glo "mark_of") rfl)
  have m_shares := He.glo_ok X G (c.fact 10 (f := .glo "shares") rfl)
  have m_share := He.glo_ok X G (c.fact 11 (f := .glo "share") rfl)
  have m_is_less := He.glo_ok X G (c.fact 12 (f := .glo "is_less") rfl)
  have m_greatest_share := He.glo_ok X G (c.fact 13 (f := .glo "greatest_share") rfl)
  have m_is_read_by := He.glo_ok X G (c.fact 14 (f := .glo "is_read_by") rfl)
  have m_sizes_read := He.glo_ok X G (c.fact 15 (f := .glo "sizes_read") rfl)
  have m_backs_read := He.glo_ok X G (c.fact 16 (f := .glo "backs_read") rfl)
  have m_growths_to_part := He.glo_ok X G (c.fact 17 (f := .glo "growths_to_part") rfl)
  have m__law_box := He.glo_ok X G (c.fact 18 (f := .glo "_law_box") rfl)
  have m__law_take := He.glo_ok X G (c.fact 19 (f := .glo "_law_take") rfl)
  have m__law_cells := He.glo_ok X G (c.fact 20 (f := .glo "_law_cells") rfl)
  have m__law_of := He.glo_ok X G (c.fact 21 (f := .glo "_law_of") rfl)
  have m__law_same := He.glo_ok X G (c.fact 22 (f := .glo "_law_same") rfl)
  have m__law_kin := He.glo_ok X G (c.fact 23 (f := .glo "_law_kin") rfl)
  have m__law_rows := He.glo_ok X G (c.fact 24 (f := .glo "_law_rows") rfl)
  have m__law_ends := He.glo_ok X G (c.fact 25 (f := .glo "_law_ends") rfl)
  have m__law_gcd := He.glo_ok X G (c.fact 26 (f := .glo "_law_gcd") rfl)
  have m__law_part := He.glo_ok X G (c.fact 27 (f := .glo "_law_part") rfl)
  have m__law_parts := He.glo_ok X G (c.fact 28 (f := .glo "_law_parts") rfl)
  have m__law_case_right := He.glo_ok X G (c.fact 29 (f := .glo "_law_case_right") rfl)
  have m__law_by_hand_right := He.glo_ok X G (c.fact 30 (f := .glo "_law_by_hand_right") rfl)
  have m__law_right := He.glo_ok X G (c.fact 31 (f := .glo "_law_right") rfl)
  have m_law := He.glo_ok X G (c.fact 32 (f := .glo "law") rfl)
  have B : Blt mg := ⟨He.free_ok X G (c.fact 33 (f := .free "abs") rfl), He.free_ok X G (c.fact 34 (f := .free "all") rfl), He.free_ok X G (c.fact 35 (f := .free "any") rfl), He.free_ok X G (c.fact 36 (f := .free "bool") rfl), He.free_ok X G (c.fact 37 (f := .free "dict") rfl), He.free_ok X G (c.fact 38 (f := .free "enumerate") rfl), He.free_ok X G (c.fact 39 (f := .free "int") rfl), He.free_ok X G (c.fact 40 (f := .free "isinstance") rfl), He.free_ok X G (c.fact 41 (f := .free "len") rfl), He.free_ok X G (c.fact 42 (f := .free "list") rfl), He.free_ok X G (c.fact 43 (f := .free "max") rfl), He.free_ok X G (c.fact 44 (f := .free "min") rfl), He.free_ok X G (c.fact 45 (f := .free "range") rfl), He.free_ok X G (c.fact 46 (f := .free "set") rfl), He.free_ok X G (c.fact 47 (f := .free "sorted") rfl), He.free_ok X G (c.fact 48 (f := .free "str") rfl), He.free_ok X G (c.fact 49 (f := .free "sum") rfl), He.free_ok X G (c.fact 50 (f := .free "tuple") rfl), He.free_ok X G (c.fact 51 (f := .free "zip") rfl), He.free_ok X G (c.fact 52 (f := .free "ValueError") rfl), He.free_ok X G (c.fact 53 (f := .free "super") rfl)⟩
  obtain ⟨t_MOST, g_MOST⟩ := He.int_ok X G (c.fact 54 (f := .int "MOST" 60) rfl)
  have e := hfa.symm.trans m_law
  cases e
  have b := FunD.bindsA (ps := ["_law_script"]) F_law fun _ _ _ _ _ _ us hl => match us, hl with | [_], _ => rfl
  refine ⟨fd_law, fun s v => b s [v] rfl, fun base _ _ => ?_⟩
  have fin : FnOk P w K mg base CX0 12 (He.ga K "law") fd_law ["_law_script"] (sp0 K 1 f_law) := by
    have c_is_number := ok_is_number (P := P) (w := w) (base := base) F_is_number m_is_number B
    have c_tupled := ok_tupled (P := P) (w := w) (base := base) F_tupled m_tupled B
    have c_tupled := (c_tupled).toV tupF tup_up
    have c_fraction := ok_fraction (P := P) (w := w) (base := base) F_fraction m_fraction B
    have c_next_size := ok_next_size (P := P) (w := w) (base := base) F_next_size m_next_size B
    have c_is_start := ok_is_start (P := P) (w := w) (base := base) F_is_start m_is_start B c_is_number c_next_size
    have c_check_start := ok_check_start (P := P) (w := w) (base := base) F_check_start m_check_start B c_is_start
    have c_blocks_along := ok_blocks_along (P := P) (w := w) (base := base) F_blocks_along m_blocks_along B c_check_start c_next_size
    have c_needs := ok_needs (P := P) (w := w) (base := base) F_needs m_needs B c_blocks_along
    have c_needs := (c_needs).toL needsF needs_up
    have c_cells_needed := ok_cells_needed (P := P) (w := w) (base := base) F_cells_needed m_cells_needed B c_needs
    have c_cells_needed := (c_cells_needed).toV cellsF cells_up
    have c_mark_of := ok_mark_of (P := P) (w := w) (base := base) F_mark_of m_mark_of B c_needs
    have c_mark_of := (c_mark_of).toV markF mark_up
    have c_shares := ok_shares (P := P) (w := w) (base := base) F_shares m_shares B c_blocks_along c_fraction
    have c_shares := (c_shares).toV sharesF shares_up
    have c_share := ok_share (P := P) (w := w) (base := base) F_share m_share B c_shares
    have c_is_less := ok_is_less (P := P) (w := w) (base := base) F_is_less m_is_less B
    have c_greatest_share := ok_greatest_share (P := P) (w := w) (base := base) F_greatest_share m_greatest_share B c_shares c_is_less
    have c_is_read_by := ok_is_read_by (P := P) (w := w) (base := base) F_is_read_by m_is_read_by B c_tupled c_is_start c_blocks_along
    have c_is_read_by := (c_is_read_by).toV readF read_up
    have c_sizes_read := ok_sizes_read (P := P) (w := w) (base := base) F_sizes_read m_sizes_read B
    have c_sizes_read := (c_sizes_read).toV sizesRF sizes_up
    have c_backs_read := ok_backs_read (P := P) (w := w) (base := base) F_backs_read m_backs_read B c_blocks_along
    have c_backs_read := (c_backs_read).toV backsF backs_up
    have c_growths_to_part := ok_growths_to_part (P := P) (w := w) (base := base) F_growths_to_part m_growths_to_part B c_check_start c_backs_read g_MOST
    have c_growths_to_part := (c_growths_to_part).toV partF part_up
    have c__law_box := ok__law_box (P := P) (w := w) (base := base) F__law_box m__law_box B
    have c__law_take := ok__law_take (P := P) (w := w) (base := base) F__law_take m__law_take B
    have c__law_cells := ok__law_cells (P := P) (w := w) (base := base) F__law_cells m__law_cells B
    have c__law_of := ok__law_of (P := P) (w := w) (base := base) F__law_of m__law_of B c__law_take
    have c__law_same := ok__law_same (P := P) (w := w) (base := base) F__law_same m__law_same B
    have c__law_same := (c__law_same).toA sameF same_up
    have c__law_kin := ok__law_kin (P := P) (w := w) (base := base) F__law_kin m__law_kin B c__law_take
    have c__law_rows := ok__law_rows (P := P) (w := w) (base := base) F__law_rows m__law_rows B
    have c__law_ends := ok__law_ends (P := P) (w := w) (base := base) F__law_ends m__law_ends B c__law_rows
    have c__law_ends := (c__law_ends).toL needsF ends_up
    have c__law_gcd := ok__law_gcd (P := P) (w := w) (base := base) F__law_gcd m__law_gcd B
    have c__law_part := ok__law_part (P := P) (w := w) (base := base) F__law_part m__law_part B c__law_gcd
    have c__law_parts := ok__law_parts (P := P) (w := w) (base := base) F__law_parts m__law_parts B c__law_rows c__law_ends c__law_part
    have c__law_parts := (c__law_parts).toL partsF parts_up
    have c__law_case_right := ok__law_case_right (P := P) (w := w) (base := base) F__law_case_right m__law_case_right B c__law_same c__law_ends c__law_rows c_cells_needed c_mark_of c_shares c_backs_read c__law_parts c_is_read_by c_sizes_read c_growths_to_part
    have c__law_case_right := (c__law_case_right).toV caseF case_up
    have c__law_by_hand_right := ok__law_by_hand_right (P := P) (w := w) (base := base) F__law_by_hand_right m__law_by_hand_right B c__law_same c_share c_greatest_share c__law_case_right
    have c__law_by_hand_right := (c__law_by_hand_right).toV handF (hand_ok by_hand)
    have c__law_right := ok__law_right (P := P) (w := w) (base := base) F__law_right m__law_right B c__law_kin c__law_of c__law_take c__law_case_right
    exact ok_law F_law B c__law_cells c__law_by_hand_right c__law_box c__law_right
  exact fin
theorem room_ok : Room 12 callerA := ⟨rfl, by decide, by decide⟩
end GB
open PySem PySem.W PySem.Calls PyProof.Rows
set_option maxRecDepth 100000 in
theorem PySem.Challenge.cw_growback_k94_great_starts_holds : PySem.Challenge.rw_growback_k94_great_starts.Holds := by
  w_on; o_law
  refine HandSHeadRun.head_any (r := OpenLaw.row PySem.Challenge.rw_growback_k94_great_starts) (q := view (OpenLaw.row PySem.Challenge.rw_growback_k94_great_starts).prog [40]) (H := GB.hk) (ob := GB.ob) (M := 6000) (loose := GB.loose) (d := HandSHeadRun.topDef (OpenLaw.row PySem.Challenge.rw_growback_k94_great_starts).prog 40) (kwd := []) GB.ob_eq
    (by kernel_rfl) (fun s => by kernel_rfl) GB.run (by kernel_rfl) (by kernel_rfl) (by kernel_rfl) (by rfl) (by first | assumption | decide +kernel) (by decide +kernel) ⟨rfl, rfl, rfl, rfl, rfl, by decide +kernel⟩ ?hw ?hc
  case hw => w_witness2
  case hc =>
    refine GB.law_end (l := PySem.Challenge.rw_growback_k94_great_starts) (n := 63) (k := 12) (x := "_law_script") (f := GB.f_law) rfl (by decide) (by kernel_rfl) GB.room_ok ?F GB.law_true
    intro w mg fa h Y G hmg0
    obtain ⟨K, KX, c⟩ := Y
    have hmg : mg ("law" : PySem.Str) = some (.ref fa) := by
      have e : (HandSHeadRun.topDef (OpenLaw.row PySem.Challenge.rw_growback_k94_great_starts).prog 40).name = ("law" : PySem.Str) := by kernel_rfl
      rw [← e]
      exact hmg0
    obtain ⟨fd, hb, hF⟩ := GB.facts (P := (PySem.Challenge.rw_growback_k94_great_starts).prog) (w := w) KX G hmg c
    exact ⟨K, fd, KX, hb, hF⟩

